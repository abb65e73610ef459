import PyProof.Rows.All
import Wide.All
import OpenK.AllK
import Wide.FinOn
import HandS.ForMost
import HandS.Exc
import HandS.IsInst
import HandS.TupAny
import HandS.TupMul
import HandS.Defaults
import HandS.ExcOwn
import HandS.Head0
import HandS.Head1
import HandS.Head2
import HandS.HeadEnd
import HandS.HeadHook1
import HandS.HeadHook2
import HandS.EndBits
import PySem.Challenge.RW_flatfuns_k11_names_of_each_sort
set_option Elab.async false
set_option linter.all false
set_option maxRecDepth 100000
set_option maxHeartbeats 0
namespace Z
open PySem PySem.Spec PyProof.Rows L2
inductive D where
  | non | bl (b : Bool) | int (i : Int) | str (x : Str) | tup (ds : List D) | rl (ds : List D) | loc (a : Addr) | ty (n : String)
inductive O where
  | lst (ds : List D) | ins (C dx : Addr) (k : Nat) (fs : List (Str × D)) | dK (kvs : List (Key × D))
abbrev Sto := Addr → Option O
def put (S : Sto) (a : Addr) (o : O) : Sto := fun b => if b = a then some o else S b
theorem put_same {S : Sto} {a : Addr} {o : O} : put S a o a = some o := if_pos rfl
theorem put_ne {S : Sto} {a b : Addr} {o : O} (h : b ≠ a) : put S a o b = S b := if_neg h
theorem put_put {S : Sto} {a : Addr} {o u : O} : put (put S a o) a u = put S a u := by
  funext b; unfold put; split <;> rfl
theorem put_comm {S : Sto} {a b : Addr} {o u : O} (h : a ≠ b) : put (put S a o) b u = put (put S b u) a o := by
  funext c; unfold put; by_cases h1 : c = b <;> by_cases h2 : c = a
  · exact absurd (h2.symm.trans h1) h
  · rw [if_pos h1, if_neg h2, if_pos h1]
  · rw [if_neg h1, if_pos h2, if_pos h2]
  · rw [if_neg h1, if_neg h2, if_neg h2, if_neg h1]
theorem put_self {S : Sto} {a : Addr} {o : O} (h : S a = some o) : put S a o = S := by
  funext b; unfold put; split
  · rename_i e; rw [e, h]
  · rfl
theorem ne_st {S : Sto} {a b : Addr} {o : O} (h : S a = some o) (h' : S b = none) : a ≠ b := fun e => by
  rw [e, h'] at h; cases h
theorem ne_oo {S : Sto} {a b : Addr} {o u : O} (h : S a = some o) (h' : S b = some u) (d : o ≠ u) : a ≠ b := fun e => by
  rw [e, h'] at h; exact d (Option.some.inj h).symm
/-- forgetting -/
def Sub (S S' : Sto) : Prop := ∀ a o, S a = some o → S' a = some o
theorem Sub.refl {S : Sto} : Sub S S := fun _ _ h => h
theorem Sub.trans {S T U : Sto} (a : Sub S T) (b : Sub T U) : Sub S U := fun x o h => b x o (a x o h)
theorem Sub.newO {S S' : Sto} {a : Addr} {o : O} (h : Sub S S') (n : S a = none) : Sub S (put S' a o) := fun b u e => by
  rw [put_ne (ne_st e n)]; exact h b u e
theorem Sub.putO {S S' : Sto} {a : Addr} {o : O} (h : Sub S S') : Sub (put S a o) (put S' a o) := fun b u e => by
  unfold Z.put at e ⊢; split at e
  · rename_i q; rw [if_pos q]; exact e
  · rename_i q; rw [if_neg q]; exact h b u e
theorem Sub.noneO {S S' : Sto} {a : Addr} (h : Sub S S') (n : S' a = none) : S a = none := by
  cases e : S a with
  | none => rfl
  | some o => rw [h a o e] at n; cases n
section
variable (K : PySem.W.Frag)
/-- a list that is read only: the script -/
def RL (H : Hp) (a : Addr) (xs : List V) : Prop :=
  (∃ o, H a = some (.frz o (.lst xs))) ∨
    ∃ (o : Obj) (its : Array Value) (n : Nat), K.lookup a = some o ∧ o.cls = .type "list" ∧ o.dict = none ∧ o.data = .seq its n ∧ its.size ≤ sizeLine ∧ Vals xs its.toList
mutual
def Rep (H : Hp) : D → V → Prop
  | .non, v => v = .non
  | .bl b, v => v = .bl b
  | .int i, v => v = .int i
  | .str x, v => v = .str x
  | .tup ds, v => ∃ a vs, v = .ref a ∧ SqT K H a vs ∧ Reps H ds vs
  | .rl ds, v => ∃ a vs, v = .ref a ∧ RL K H a vs ∧ Reps H ds vs
  | .loc a, v => v = .ref a
  | .ty n, v => v = .ty n
def Reps (H : Hp) : List D → List V → Prop
  | [], vs => vs = []
  | d :: ds, vs => ∃ v r, vs = v :: r ∧ Rep H d v ∧ Reps H ds r
end
def Lt (H H' : Hp) : Prop := (∀ a xs, SqT K H a xs → SqT K H' a xs) ∧ ∀ a o u, H a = some (.frz o u) → H' a = some (.frz o u)
def FR (H : Hp) : List (Str × D) → List (Str × V) → Prop
  | [], gs => gs = []
  | p :: fs, gs => ∃ v r, gs = (p.1, v) :: r ∧ Rep K H p.2 v ∧ FR H fs r
def KR (H : Hp) : List (Key × D) → List (Key × V) → Prop
  | [], gs => gs = []
  | p :: fs, gs => ∃ v r, gs = (p.1, v) :: r ∧ Rep K H p.2 v ∧ KR H fs r
def OR (H : Hp) (a : Addr) : O → Prop
  | .lst ds => ∃ vs, H a = some (.lst vs) ∧ Reps K H ds vs
  | .ins C dx _ fs => ∃ gs, H a = some (.ins C dx gs) ∧ FR K H fs gs
  | .dK kvs => ∃ gs, H a = some (.dK gs) ∧ KR K H kvs gs
def HR (H : Hp) (S : Sto) : Prop := ∀ a o, S a = some o → OR K H a o
def SR (H : Hp) (δ : List (Option D)) (σ : L2.St) : Prop := δ.length = σ.length ∧ ∀ (i : Nat) (d : D), δ[i]? = some (some d) → ∃ v, σ[i]? = some (some v) ∧ Rep K H d v
end
section
variable {K : PySem.W.Frag} {H H' H2 : Hp} {a p : Addr} {v : V} {vs : List V} {S : Sto}
theorem Lt.refl : Lt K H H := ⟨fun _ _ h => h, fun _ _ _ h => h⟩
theorem Lt.trans (x : Lt K H H') (y : Lt K H' H2) : Lt K H H2 := ⟨fun a xs h => y.1 a xs (x.1 a xs h), fun a o u h => y.2 a o u (x.2 a o u h)⟩
theorem Lt.updO {o : HO} (h1 : ∀ xs, H p ≠ some (.tup xs)) (h2 : ∀ ob u, H p ≠ some (.frz ob u)) : Lt K H (upd H p o) := by
  refine ⟨fun b xs h => ?_, fun b ob u h => by rw [upd_ne (fun e => h2 ob u (by rw [← e]; exact h))]; exact h⟩
  rcases h with (h | ⟨ob, h⟩) | h
  · exact .inl (.inl (by rw [upd_ne (fun e => h1 xs (by rw [← e]; exact h))]; exact h))
  · exact .inl (.inr ⟨ob, by rw [upd_ne (fun e => h2 ob _ (by rw [← e]; exact h))]; exact h⟩)
  · exact .inr h
theorem Lt.newO {o : HO} (h : H p = none) : Lt K H (upd H p o) := Lt.updO (fun xs e => by rw [h] at e; cases e) fun ob xs e => by rw [h] at e; cases e
theorem Lt.lstO {xs : List V} {o : HO} (h : H p = some (.lst xs)) : Lt K H (upd H p o) := Lt.updO (fun xs e => by rw [h] at e; cases e) fun ob xs e => by rw [h] at e; cases e
theorem Lt.insO {C dx : Addr} {gs : List (Str × V)} {o : HO} (h : H p = some (.ins C dx gs)) : Lt K H (upd H p o) := Lt.updO (fun xs e => by rw [h] at e; cases e) fun ob xs e => by rw [h] at e; cases e
theorem Lt.dKO {gs : List (Key × V)} {o : HO} (h : H p = some (.dK gs)) : Lt K H (upd H p o) := Lt.updO (fun xs e => by rw [h] at e; cases e) fun ob xs e => by rw [h] at e; cases e
theorem RL.mono {xs : List V} (l : Lt K H H') (h : RL K H a xs) : RL K H' a xs := by
  rcases h with ⟨o, h⟩ | h
  · exact .inl ⟨o, l.2 a o _ h⟩
  · exact .inr h
theorem RL.sq {xs : List V} (h : RL K H a xs) : SqL K H a xs := by
  rcases h with h | h
  · exact .inl (.inr h)
  · exact .inr h
mutual
theorem Rep.mono (l : Lt K H H') : ∀ {d : D} {v : V}, Rep K H d v → Rep K H' d v
  | .non, _, h => h
  | .bl _, _, h => h
  | .int _, _, h => h
  | .str _, _, h => h
  | .tup _, _, ⟨a, vs, e, q, r⟩ => ⟨a, vs, e, l.1 a vs q, Reps.mono l r⟩
  | .rl _, _, ⟨a, vs, e, q, r⟩ => ⟨a, vs, e, q.mono l, Reps.mono l r⟩
  | .loc _, _, h => h
  | .ty _, _, h => h
theorem Reps.mono (l : Lt K H H') : ∀ {ds : List D} {vs : List V}, Reps K H ds vs → Reps K H' ds vs
  | [], _, h => h
  | _ :: _, _, ⟨v, r, e, q, t⟩ => ⟨v, r, e, Rep.mono l q, Reps.mono l t⟩
end
theorem FR.mono (l : Lt K H H') : ∀ {fs : List (Str × D)} {gs : List (Str × V)}, FR K H fs gs → FR K H' fs gs
  | [], _, h => h
  | _ :: _, _, ⟨v, r, e, q, t⟩ => ⟨v, r, e, Rep.mono l q, FR.mono l t⟩
theorem KR.mono (l : Lt K H H') : ∀ {fs : List (Key × D)} {gs : List (Key × V)}, KR K H fs gs → KR K H' fs gs
  | [], _, h => h
  | _ :: _, _, ⟨v, r, e, q, t⟩ => ⟨v, r, e, Rep.mono l q, KR.mono l t⟩
theorem SR.mono (l : Lt K H H') {δ : List (Option D)} {σ : L2.St} (h : SR K H δ σ) : SR K H' δ σ := ⟨h.1, fun i d e => let ⟨v, e1, r⟩ := h.2 i d e; ⟨v, e1, r.mono l⟩⟩
theorem SR.set {δ : List (Option D)} {σ : L2.St} {d : D} (h : SR K H δ σ) (r : Rep K H d v) (i : Nat) : SR K H (δ.set i (some d)) (σ.set i (some v)) := by
  refine ⟨by simpa using h.1, fun j e q => ?_⟩
  by_cases hj : i = j
  · subst hj
    by_cases hl : i < δ.length
    · rw [List.getElem?_set_self hl] at q
      cases q
      exact ⟨v, List.getElem?_set_self (h.1 ▸ hl), r⟩
    · rw [List.getElem?_eq_none (by simpa using hl)] at q; cases q
  · rw [List.getElem?_set_ne hj] at q
    obtain ⟨w, e1, r1⟩ := h.2 j e q
    exact ⟨w, by rw [List.getElem?_set_ne hj]; exact e1, r1⟩
theorem SR.setN {δ : List (Option D)} {σ : L2.St} (h : SR K H δ σ) (i : Nat) : SR K H (δ.set i none) (σ.set i none) := by
  refine ⟨by simpa using h.1, fun j e q => ?_⟩
  by_cases hj : i = j
  · subst hj
    by_cases hl : i < δ.length
    · rw [List.getElem?_set_self hl] at q; cases q
    · rw [List.getElem?_eq_none (by simpa using hl)] at q; cases q
  · rw [List.getElem?_set_ne hj] at q
    obtain ⟨w, e1, r1⟩ := h.2 j e q
    exact ⟨w, by rw [List.getElem?_set_ne hj]; exact e1, r1⟩
theorem OR.stay {o : O} (l : Lt K H H') (e : H' a = H a) (h : OR K H a o) : OR K H' a o := by
  cases o with
  | lst ds => obtain ⟨vs, h1, h2⟩ := h; exact ⟨vs, by rw [e]; exact h1, h2.mono l⟩
  | ins C dx k fs => obtain ⟨vs, h1, h2⟩ := h; exact ⟨vs, by rw [e]; exact h1, h2.mono l⟩
  | dK fs => obtain ⟨vs, h1, h2⟩ := h; exact ⟨vs, by rw [e]; exact h1, h2.mono l⟩
theorem HR.sub {S' : Sto} (h : HR K H S) (s : Sub S' S) : HR K H S' := fun a o e => h a o (s a o e)
/-- a place of H is written, S says what is there -/
theorem HR.putO {u : HO} {o : O} (h : HR K H S) (l : Lt K H (upd H p u)) (q : OR K (upd H p u) p o) : HR K (upd H p u) (put S p o) := fun b x e => by
  by_cases hb : b = p
  · subst hb
    rw [put_same] at e
    cases e
    exact q
  · rw [put_ne hb] at e
    exact (h b x e).stay l (upd_ne hb)
/-- a new place that S does not speak of -/
theorem HR.newO {u : HO} (h : HR K H S) (n : S p = none) (l : Lt K H (upd H p u)) : HR K (upd H p u) S := fun b x e =>
  (h b x e).stay l (upd_ne (ne_st e n))
theorem HR.fresh (h : HR K H S) (e : H a = none) : S a = none := by
  cases q : S a with
  | none => rfl
  | some o =>
    have := h a o q
    cases o with
    | lst ds => obtain ⟨vs, h1, _⟩ := this; rw [e] at h1; cases h1
    | ins C dx k fs => obtain ⟨vs, h1, _⟩ := this; rw [e] at h1; cases h1
    | dK fs => obtain ⟨vs, h1, _⟩ := this; rw [e] at h1; cases h1
theorem Reps.length : ∀ {ds : List D} {vs : List V}, Reps K H ds vs → ds.length = vs.length
  | [], _, h => by cases (show _ = [] from h); rfl
  | _ :: _, _, ⟨v, r, e, q, t⟩ => by rw [e]; exact congrArg Nat.succ (Reps.length t)
theorem Reps.get : ∀ {ds : List D} {vs : List V} {i : Nat} {d : D}, Reps K H ds vs → ds[i]? = some d → ∃ v, vs[i]? = some v ∧ Rep K H d v
  | [], _, _, _, _, e => by simp at e
  | x :: ds, _, 0, d, ⟨v, r, e, q, t⟩, h => by
    simp at h; subst h; subst e; exact ⟨v, rfl, q⟩
  | x :: ds, _, i + 1, d, ⟨v, r, e, q, t⟩, h => by
    subst e
    obtain ⟨w, h1, h2⟩ := Reps.get (i := i) t (by simpa using h)
    exact ⟨w, by simpa using h1, h2⟩
theorem Reps.append : ∀ {ds es : List D} {vs ws : List V}, Reps K H ds vs → Reps K H es ws → Reps K H (ds ++ es) (vs ++ ws)
  | [], _, _, _, h, k => by cases (show _ = [] from h); exact k
  | _ :: _, _, _, _, ⟨v, r, e, q, t⟩, k => by subst e; exact ⟨v, _, rfl, q, Reps.append t k⟩
theorem Reps.one {d : D} (h : Rep K H d v) : Reps K H [d] [v] := ⟨v, [], rfl, h, rfl⟩
theorem Reps.take : ∀ {ds : List D} {vs : List V} (n : Nat), Reps K H ds vs → Reps K H (ds.take n) (vs.take n)
  | _, _, 0, _ => by simp [Reps]
  | [], _, n + 1, h => by cases (show _ = [] from h); rfl
  | _ :: _, _, n + 1, ⟨v, r, e, q, t⟩ => by subst e; exact ⟨v, _, rfl, q, Reps.take n t⟩
theorem Reps.drop : ∀ {ds : List D} {vs : List V} (n : Nat), Reps K H ds vs → Reps K H (ds.drop n) (vs.drop n)
  | _, _, 0, h => h
  | [], _, n + 1, h => by cases (show _ = [] from h); rfl
  | _ :: _, _, n + 1, ⟨v, r, e, q, t⟩ => by subst e; exact Reps.drop n t
theorem Reps.set {d : D} (h : Rep K H d v) : ∀ {ds : List D} {vs : List V} (i : Nat), Reps K H ds vs → Reps K H (ds.set i d) (vs.set i v)
  | [], _, _, k => by cases (show _ = [] from k); rfl
  | _ :: _, _, 0, ⟨w, r, e, q, t⟩ => by subst e; exact ⟨v, r, rfl, h, t⟩
  | _ :: _, _, i + 1, ⟨w, r, e, q, t⟩ => by subst e; exact ⟨w, _, rfl, q, Reps.set h i t⟩
theorem Reps.dropLast {ds : List D} {vs : List V} (h : Reps K H ds vs) : Reps K H ds.dropLast vs.dropLast := by
  rw [List.dropLast_eq_take, List.dropLast_eq_take, ← h.length]
  exact h.take _
theorem Reps.eraseIdx : ∀ {ds : List D} {vs : List V} (i : Nat), Reps K H ds vs → Reps K H (ds.eraseIdx i) (vs.eraseIdx i)
  | [], _, _, k => by cases (show _ = [] from k); rfl
  | _ :: _, _, 0, ⟨w, r, e, q, t⟩ => by subst e; exact t
  | _ :: _, _, i + 1, ⟨w, r, e, q, t⟩ => by subst e; exact ⟨w, _, rfl, q, Reps.eraseIdx i t⟩
theorem Reps.reverse : ∀ {ds : List D} {vs : List V}, Reps K H ds vs → Reps K H ds.reverse vs.reverse
  | [], _, h => by cases (show _ = [] from h); rfl
  | _ :: _, _, ⟨v, r, e, q, t⟩ => by
    subst e
    rw [List.reverse_cons, List.reverse_cons]
    exact Reps.append (Reps.reverse t) (Reps.one q)
theorem Reps.ints : ∀ {ns : List Int}, Reps K H (ns.map D.int) (ns.map V.int)
  | [] => rfl
  | n :: ns => ⟨.int n, _, rfl, rfl, Reps.ints⟩
theorem FR.lookup {f : Str} : ∀ {fs : List (Str × D)} {gs : List (Str × V)} {d : D}, FR K H fs gs → fs.lookup f = some d → ∃ v, gs.lookup f = some v ∧ Rep K H d v
  | [], _, _, _, h => by cases h
  | p :: fs, _, d, ⟨v, r, e, q, t⟩, h => by
    subst e
    obtain ⟨n, x⟩ := p
    rw [List.lookup_cons] at h ⊢
    cases hn : (f == n) with
    | true => rw [hn] at h; cases h; exact ⟨v, rfl, q⟩
    | false => rw [hn] at h; exact FR.lookup t h
theorem FR.lookupN {f : Str} : ∀ {fs : List (Str × D)} {gs : List (Str × V)}, FR K H fs gs → fs.lookup f = none → gs.lookup f = none
  | [], _, h, _ => by cases (show _ = [] from h); rfl
  | p :: fs, _, ⟨v, r, e, q, t⟩, h => by
    subst e
    obtain ⟨n, x⟩ := p
    rw [List.lookup_cons] at h ⊢
    cases hn : (f == n) with
    | true => rw [hn] at h; cases h
    | false => rw [hn] at h; exact FR.lookupN t h
theorem FR.length : ∀ {fs : List (Str × D)} {gs : List (Str × V)}, FR K H fs gs → fs.length = gs.length
  | [], _, h => by cases (show _ = [] from h); rfl
  | _ :: _, _, ⟨v, r, e, q, t⟩ => by rw [e]; exact congrArg Nat.succ (FR.length t)
end
/-- a field is put -/
def putD (f : Str) (d : D) : List (Str × D) → List (Str × D)
  | [] => [(f, d)]
  | (g, u) :: r => if g = f then (g, d) :: r else (g, u) :: putD f d r
section
variable {K : PySem.W.Frag} {H : Hp}
theorem FR.putF {f : Str} {d : D} {v : V} (r : Rep K H d v) : ∀ {fs : List (Str × D)} {gs : List (Str × V)}, FR K H fs gs → FR K H (putD f d fs) (L2.putF f v gs)
  | [], _, h => by
    cases (show _ = [] from h)
    exact ⟨v, [], rfl, r, rfl⟩
  | (g, u) :: fs, _, ⟨w, rr, e, q, t⟩ => by
    subst e
    unfold putD L2.putF
    by_cases hg : g = f
    · rw [if_pos hg, if_pos hg]
      exact ⟨v, rr, rfl, r, t⟩
    · rw [if_neg hg, if_neg hg]
      exact ⟨w, _, rfl, q, FR.putF r t⟩
end
end Z
namespace Z
open PySem PySem.Spec PyProof.Rows L2
inductive CK where | non | bl (b : Bool) | int (i : Int) | str (x : Str)
inductive B2 where | add | sub | mul | fdiv | mod | pow
inductive Cm where | eq | ne | lt | le | gt | ge | inn | nin | isN | notN
inductive Bi where | len | int | str | list | tuple | sum | all | any | max | min | abs
inductive Mt where | append | extend | pop | reverse | split | join | isalnum | upper | lower
inductive IT where | n (i : Nat) | t (is : List Nat)
mutual
inductive IE where
  | c (k : CK) | v (i : Nat) | g (j : Nat)
  | b2 (o : B2) (a b : IE) | neg (a : IE)
  | cmp (o : Cm) (a b : IE) | chn (o1 o2 : Cm) (a b c : IE)
  | and (a b : IE) | or (a b : IE) | not (a : IE) | ite (t a b : IE)
  | tup (es : IEs) | lst (es : IEs)
  | ix (a i : IE) | sl (a : IE) (lo hi : IO)
  | call (f : Nat) (es : IEs) | new (k : Nat) (es : IEs) | meth (m : Str) (o : IE) (es : IEs)
  | bi (b : Bi) (es : IEs) | bm (m : Mt) (o : IE) (es : IEs)
  | isi (a : IE) (T : String) | fld (o : IE) (f : Str)
  | lc (w : IW) (tg : IT) (cs : IEs) (e : IE) (own : List (Str × Nat))
inductive IEs where
  | nil | cons (e : IE) (es : IEs)
inductive IO where
  | none | some (e : IE)
inductive IW where
  | seq (e : IE) | rng1 (a : IE) | rng2 (a b : IE)
end
mutual
inductive IS where
  | setv (i : Nat) (e : IE) | setlc (i : Nat) (e : IE) | sett (is : List Nat) (e : IE) | par (i j : Nat) (a b : IE)
  | sets (o i e : IE) | setf (o : IE) (f : Str) (e : IE) | augf (o : IE) (f : Str) (op : B2) (e : IE)
  | expr (e : IE) | ret (e : IE) | retN | ifs (t : IE) (a b : IB)
  | for_ (w : IW) (t : IT) (b : IB) | while_ (t : IE) (b : IB) | pass | brk | cont
inductive IB where
  | nil | cons (s : IS) (b : IB)
end
abbrev Env' := List (Option D)
abbrev DK := D → Sto → Prop
/-- an exception: its class, its fields -/
abbrev DX := Nat → List (Str × D) → Sto → Prop
abbrev DXS := Nat → List (Str × D) → Env' → Sto → Prop
def CK.d : CK → D
  | .non => .non | .bl b => .bl b | .int i => .int i | .str x => .str x
def isNon : D → Bool
  | .non => true | _ => false
def flatD : D → Bool
  | .non => true | .bl _ => true | .int _ => true | .str _ => true | _ => false
def eqD : D → D → Bool
  | .non, .non => true
  | .bl a, .bl b => a == b
  | .bl a, .int b => (if a then 1 else 0) == b
  | .int a, .bl b => a == (if b then 1 else 0)
  | .int a, .int b => a == b
  | .str a, .str b => a == b
  | _, _ => false
def inD (x : D) (xs : List D) : Bool := xs.any fun y => eqD y x
/- what plain data is as the library's data -/
mutual
inductive DP (S : Sto) : D → PyData → Prop
  | non : DP S .non .none
  | bl (b : Bool) : DP S (.bl b) (.bool b)
  | int (i : Int) : DP S (.int i) (.int i)
  | str (x : Str) : DP S (.str x) (.str x)
  | lst {a : Addr} {xs : List D} {ds : List PyData} : S a = some (.lst xs) → DPs S xs ds → DP S (.loc a) (.list ds)
  | rl {xs : List D} {ds : List PyData} : DPs S xs ds → DP S (.rl xs) (.list ds)
  | tup {xs : List D} {ds : List PyData} : DPs S xs ds → DP S (.tup xs) (.tuple ds)
inductive DPs (S : Sto) : List D → List PyData → Prop
  | nil : DPs S [] []
  | cons {v : D} {vs : List D} {d : PyData} {ds : List PyData} : DP S v d → DPs S vs ds → DPs S (v :: vs) (d :: ds)
end
/-- == | != (neg) -/
def eqO (neg : Bool) (x y : D) (S : Sto) (Q : Bool → Prop) : Prop :=
  match x, y with
  | .int i, .int j => Q (neg ^^ decide (i = j))
  | .str i, .str j => Q (neg ^^ decide (i = j))
  | .bl i, .bl j => Q (neg ^^ decide (i = j))
  | x, y => ∃ d e, DP S x d ∧ DP S y e ∧ SeqAt.shaped d = true ∧ SeqAt.shaped e = true ∧ Q (neg ^^ PyData.eqv d e)
def bop (o : B2) (x y : D) (S : Sto) (Q : DK) : Prop :=
  match o, x, y with
  | .add, .int i, .int j => Q (.int (i + j)) S
  | .add, .str i, .str j => i.length + j.length ≤ sizeLine ∧ Q (.str (i ++ j)) S
  | .add, .tup xs, .tup ys => xs.length + ys.length ≤ sizeLine ∧ Q (.tup (xs ++ ys)) S
  | .add, .loc a, .loc b => ∃ xs ys, S a = some (.lst xs) ∧ S b = some (.lst ys) ∧ xs.length + ys.length ≤ sizeLine ∧ ∀ p, S p = none → Q (.loc p) (put S p (.lst (xs ++ ys)))
  | .sub, .int i, .int j => Q (.int (i - j)) S
  | .mul, .int i, .int j => CMul i j ∧ Q (.int (i * j)) S
  | .mul, .loc a, .int k => ∃ xs, S a = some (.lst xs) ∧ -(2 ^ 63) ≤ k ∧ k < 2 ^ 63 ∧ xs.length * k.toNat ≤ sizeLine ∧ ∀ p, S p = none → Q (.loc p) (put S p (.lst (List.replicate k.toNat xs).flatten))
  | .mul, .tup xs, .int k => xs ≠ [] ∧ 2 ≤ k ∧ k ≤ 1000 ∧ xs.length ≤ 1000 ∧ Q (.tup (List.replicate k.toNat xs).flatten) S
  | .fdiv, .int i, .int j => CDivN i j ∧ Q (.int (i.fdiv j)) S
  | .mod, .int i, .int j => j ≠ 0 ∧ Q (.int (i.fmod j)) S
  | .pow, .int i, .int j => CPow i j ∧ Q (.int (i ^ j.toNat)) S
  | _, _, _ => False
def inO (neg : Bool) (x y : D) (S : Sto) (Q : Bool → Prop) : Prop :=
  match x, y with
  | .str i, .str j => ∃ c, i = ⟨#[c]⟩ ∧ Q (neg ^^ decide (c ∈ j.cps.toList))
  | x, .tup ys => flatD x = true ∧ ys.all flatD = true ∧ Q (neg ^^ inD x ys)
  | x, .rl ys => flatD x = true ∧ ys.all flatD = true ∧ Q (neg ^^ inD x ys)
  | x, .loc a => ∃ ys, S a = some (.lst ys) ∧ flatD x = true ∧ ys.all flatD = true ∧ Q (neg ^^ inD x ys)
  | _, _ => False
def cop (o : Cm) (x y : D) (S : Sto) (Q : Bool → Prop) : Prop :=
  match o with
  | .eq => eqO false x y S Q
  | .ne => eqO true x y S Q
  | .inn => inO false x y S Q
  | .nin => inO true x y S Q
  | .isN => y = .non ∧ Q (isNon x)
  | .notN => y = .non ∧ Q (!isNon x)
  | .lt => match x, y with | .int i, .int j => Q (decide (i < j)) | _, _ => False
  | .le => match x, y with | .int i, .int j => Q (decide (i ≤ j)) | _, _ => False
  | .gt => match x, y with | .int i, .int j => Q (decide (j < i)) | _, _ => False
  | .ge => match x, y with | .int i, .int j => Q (decide (j ≤ i)) | _, _ => False
def ixO (x y : D) (S : Sto) (Q : D → Prop) : Prop :=
  match x, y with
  | .tup xs, .int i => ∃ d, atI xs i = some d ∧ Q d
  | .rl xs, .int i => ∃ d, atI xs i = some d ∧ Q d
  | .loc a, .int i => ∃ xs d, S a = some (.lst xs) ∧ atI xs i = some d ∧ Q d
  | .str z, .int i => z.length ≤ sizeLine ∧ ∃ c, atI z.cps.toList i = some c ∧ Q (.str ⟨#[c]⟩)
  | _, _ => False
def cutD (xs : List D) (lo hi : Option Int) : List D := (xs.drop (HT.sIx xs.length 0 lo)).take (HT.sIx xs.length xs.length hi - HT.sIx xs.length 0 lo)
def slO (x : D) (lo hi : Option Int) (S : Sto) (Q : DK) : Prop :=
  match x with
  | .tup xs => Q (.tup (cutD xs lo hi)) S
  | .rl xs => ∀ p, S p = none → Q (.loc p) (put S p (.lst (cutD xs lo hi)))
  | .loc a => ∃ xs, S a = some (.lst xs) ∧ ∀ p, S p = none → Q (.loc p) (put S p (.lst (cutD xs lo hi)))
  | .str z => z.length ≤ sizeLine ∧ Q (.str (cutS z lo hi)) S
  | _ => False
/-- the items of a list | a tuple -/
def itemsO (x : D) (S : Sto) (k : List D → Prop) : Prop :=
  match x with
  | .tup xs => k xs
  | .rl xs => k xs
  | .loc a => ∃ xs, S a = some (.lst xs) ∧ k xs
  | _ => False
def listO (x : D) (S : Sto) (k : List D → Prop) : Prop :=
  match x with
  | .rl xs => k xs
  | .loc a => ∃ xs, S a = some (.lst xs) ∧ k xs
  | _ => False
def biO (b : Bi) (xs : List D) (S : Sto) (Q : DK) : Prop :=
  match b, xs with
  | .len, [.str z] => z.length ≤ sizeLine ∧ Q (.int z.length) S
  | .len, [x] => itemsO x S fun ys => Q (.int ys.length) S
  | .int, [.int i] => Q (.int i) S
  | .int, [.bl k] => Q (.int (if k then 1 else 0)) S
  | .str, [.int i] => i.natAbs.log2 < 1920 ∧ Q (.str (toString i)) S
  | .list, [x] => itemsO x S fun ys => ∀ p, S p = none → Q (.loc p) (put S p (.lst ys))
  | .tuple, [.tup ys] => Q (.tup ys) S
  | .tuple, [x] => listO x S fun ys => Q (.tup ys) S
  | .sum, [x] => listO x S fun ys => ∃ ns : List Int, ys = ns.map D.int ∧ Q (.int ns.sum) S
  | .all, [x] => listO x S fun ys => ∃ bs : List Bool, ys = bs.map D.bl ∧ Q (.bl (bs.all id)) S
  | .any, [x] => listO x S fun ys => ∃ bs : List Bool, ys = bs.map D.bl ∧ Q (.bl (bs.any id)) S
  | .max, [.int i, .int j] => Q (.int (if j > i then j else i)) S
  | .min, [.int i, .int j] => Q (.int (if j < i then j else i)) S
  | .max, [x] => listO x S fun ys => ∃ ns : List Int, ys = ns.map D.int ∧ 0 < ns.length ∧ ∀ m, m ∈ ns → (∀ y, y ∈ ns → y ≤ m) → Q (.int m) S
  | .min, [x] => listO x S fun ys => ∃ ns : List Int, ys = ns.map D.int ∧ 0 < ns.length ∧ ∀ m, m ∈ ns → (∀ y, y ∈ ns → m ≤ y) → Q (.int m) S
  | .abs, [.int i] => Q (.int (if i < 0 then -i else i)) S
  | _, _ => False
def mtO (m : Mt) (x : D) (xs : List D) (S : Sto) (Q : DK) : Prop :=
  match m, x, xs with
  | .append, .loc a, [d] => ∃ ys, S a = some (.lst ys) ∧ ys.length < sizeLine ∧ Q .non (put S a (.lst (ys ++ [d])))
  | .extend, .loc a, [.loc b] => ∃ ys zs, S a = some (.lst ys) ∧ S b = some (.lst zs) ∧ ys.length + zs.length ≤ sizeLine ∧ Q .non (put S a (.lst (ys ++ zs)))
  | .pop, .loc a, [] => ∃ ys d, S a = some (.lst ys) ∧ ys[ys.length - 1]? = some d ∧ Q d (put S a (.lst ys.dropLast))
  | .pop, .loc a, [.int i] => ∃ ys k d, S a = some (.lst ys) ∧ -(2 ^ 63) ≤ i ∧ i < 2 ^ 63 ∧ seqIndex? i ys.length = some k ∧ ys[k]? = some d ∧ Q d (put S a (.lst (ys.eraseIdx k)))
  | .reverse, .loc a, [] => ∃ ys, S a = some (.lst ys) ∧ Q .non (put S a (.lst ys.reverse))
  | .join, .str a, [x] => itemsO x S fun ys => ∃ zs : List Str, ys = zs.map D.str ∧ (zs.map (·.length)).sum + zs.length * a.length ≤ 16777216 ∧ Q (.str (Txt.join a zs)) S
  | .isalnum, .str a, [] => Q (.bl (Txt.isalnum a)) S
  | .upper, .str a, [] => a.length ≤ 5592405 ∧ Q (.str (Txt.upper a)) S
  | .lower, .str a, [] => a.length ≤ 5592405 ∧ Q (.str (Txt.lower a)) S
  | .split, .str a, [.str b] => (b.length == 0) = false ∧ a.length + 2 ≤ sizeLine ∧ ∀ p, S p = none → Q (.loc p) (put S p (.lst ((Txt.split a b).map D.str)))
  | _, _, _ => False
/-- the receiver is of the method's class -/
def mtTy (m : Mt) (x : D) (S : Sto) : Prop :=
  match m with
  | .append | .extend | .pop | .reverse => match x with
    | .loc a => ∃ ys, S a = some (.lst ys)
    | _ => False
  | _ => match x with
    | .str _ => True
    | _ => False
def tyS : D → Sto → Option String
  | .non, _ => some "NoneType"
  | .bl _, _ => some "bool"
  | .int _, _ => some "int"
  | .str _, _ => some "str"
  | .tup _, _ => some "tuple"
  | .rl _, _ => some "list"
  | .loc a, S => match S a with
    | some (.lst _) => some "list"
    | some (.dK _) => some "dict"
    | _ => none
  | .ty _, _ => none
def isiO (x : D) (T : String) (S : Sto) (Q : Bool → Prop) : Prop := match tyS x S with
  | some t => ∃ b, kitB t T = some b ∧ Q b
  | none => False
def seqO (x : D) (S : Sto) (k : List D → (Sto → Prop) → Prop) : Prop :=
  match x with
  | .tup xs => k xs fun _ => True
  | .rl xs => k xs fun _ => True
  | .str z => k (z.cps.toList.map fun c => .str ⟨#[c]⟩) fun _ => True
  | .loc a => ∃ xs, S a = some (.lst xs) ∧ k xs fun S' => S' a = some (.lst xs)
  | _ => False
def rangeD (lo : Int) (n : Nat) : List D := (List.range n).map fun (i : Nat) => D.int (lo + (i : Int))
def wipeD (δ : Env') : List Nat → Env'
  | [] => δ
  | v :: vs => (wipeD δ vs).set v none
/-- a target takes a value -/
def tgO (t : IT) (x : D) (δ : Env') (k : Env' → Prop) : Prop :=
  match t with
  | .n i => k (δ.set i (some x))
  | .t is => match x with
    | .tup xs => xs.length = is.length ∧ k ((is.zip xs).foldl (fun δ p => δ.set p.1 (some p.2)) δ)
    | _ => False
/-- what the world of defs is -/
structure Gm where
  adr : Nat → Addr
  call : Nat → List D → Sto → DK → DX → Prop
  con : Nat → D
  cls : Nat → Addr
  ini : Nat → Nat
  mth : Nat → Str → Option Nat
  fok : Nat → Str → Bool
def lcLoop (G : Sto → Prop) (step : D → Sto → (Sto → Prop) → Prop) : List D → Sto → (Sto → Prop) → Prop
  | [], S, k => G S ∧ k S
  | d :: ds, S, k => G S ∧ step d S fun S' => ∃ T, Sub T S' ∧ lcLoop G step ds T k
section
variable (Γ : Gm)
mutual
def dE (E : DX) : IE → Env' → Sto → DK → Prop
  | .c k, _, S, Q => Q k.d S
  | .v i, δ, S, Q => match δ[i]? with
    | some (some d) => Q d S
    | _ => False
  | .g j, _, S, Q => Q (Γ.con j) S
  | .b2 o a b, δ, S, Q => dE E a δ S fun x S1 => dE E b δ S1 fun y S2 => bop o x y S2 Q
  | .neg a, δ, S, Q => dE E a δ S fun x S1 => match x with
    | .int i => Q (.int (-i)) S1
    | _ => False
  | .cmp o a b, δ, S, Q => dE E a δ S fun x S1 => dE E b δ S1 fun y S2 => cop o x y S2 fun k => Q (.bl k) S2
  | .chn o1 o2 a b c, δ, S, Q => dE E a δ S fun x S1 => dE E b δ S1 fun y S2 => cop o1 x y S2 fun k => match k with
    | true => dE E c δ S2 fun z S3 => cop o2 y z S3 fun k => Q (.bl k) S3
    | false => Q (.bl false) S2
  | .and a b, δ, S, Q => dE E a δ S fun x S1 => match x with
    | .bl true => dE E b δ S1 Q
    | .bl false => Q (.bl false) S1
    | _ => False
  | .or a b, δ, S, Q => dE E a δ S fun x S1 => match x with
    | .bl true => Q (.bl true) S1
    | .bl false => dE E b δ S1 Q
    | _ => False
  | .not a, δ, S, Q => dE E a δ S fun x S1 => match x with
    | .bl true => Q (.bl false) S1
    | .bl false => Q (.bl true) S1
    | _ => False
  | .ite t a b, δ, S, Q => dE E t δ S fun x S1 => match x with
    | .bl true => dE E a δ S1 Q
    | .bl false => dE E b δ S1 Q
    | _ => False
  | .tup es, δ, S, Q => dA E es δ S fun xs S1 => xs.length ≤ sizeLine ∧ Q (.tup xs) S1
  | .lst es, δ, S, Q => dA E es δ S fun xs S1 => xs.length ≤ sizeLine ∧ ∀ p, S1 p = none → Q (.loc p) (put S1 p (.lst xs))
  | .ix a i, δ, S, Q => dE E a δ S fun x S1 => dE E i δ S1 fun y S2 => ixO x y S2 fun d => Q d S2
  | .sl a lo hi, δ, S, Q => dE E a δ S fun x S1 => dO E lo δ S1 fun l S2 => dO E hi δ S2 fun h S3 => slO x l h S3 Q
  | .call f es, δ, S, Q => dA E es δ S fun xs S1 => Γ.call f xs S1 Q E
  | .new k es, δ, S, Q => dA E es δ S fun xs S1 => ∀ x dx, S1 x = none → S1 dx = none → dx ≠ x → Γ.call (Γ.ini k) (.loc x :: xs) (put S1 x (.ins (Γ.cls k) dx k [])) (fun v S2 => v = .non ∧ Q (.loc x) S2) E
  | .meth m o es, δ, S, Q => dE E o δ S fun x S1 => match x with
    | .loc a => match S1 a with
      | some (.ins C dx k fs) => C = Γ.cls k ∧ match Γ.mth k m with
        | some f => fs.lookup m = none ∧ dA E es δ S1 fun xs S2 => Γ.call f (.loc a :: xs) S2 Q E
        | none => False
      | _ => False
    | _ => False
  | .bi b es, δ, S, Q => dA E es δ S fun xs S1 => biO b xs S1 Q
  | .bm m o es, δ, S, Q => dE E o δ S fun x S1 => mtTy m x S1 ∧ dA E es δ S1 fun xs S2 => mtO m x xs S2 Q
  | .isi a T, δ, S, Q => dE E a δ S fun x S1 => isiO x T S1 fun k => Q (.bl k) S1
  | .fld o f, δ, S, Q => dE E o δ S fun x S1 => match x with
    | .loc a => match S1 a with
      | some (.ins C _ k fs) => C = Γ.cls k ∧ Γ.fok k f = true ∧ match fs.lookup f with
        | some d => Q d S1
        | none => False
      | _ => False
    | _ => False
  | .lc w tg cs e own, δ, S, Q => dW E w δ S fun ds G S1 => ∀ p, S1 p = none →
      lcLoop G (fun d S2 k => tgO tg d (wipeD δ (own.map (·.2))) fun δ2 => dCs (fun _ _ _ => False) cs δ2 S2 fun b S3 => match b with
        | true => dE (fun _ _ _ => False) e δ2 S3 fun y S4 => ∃ acc, S4 p = some (.lst acc) ∧ acc.length < sizeLine ∧ k (put S4 p (.lst (acc ++ [y])))
        | false => k S3) ds (put S1 p (.lst [])) fun S2 => Q (.loc p) S2
def dA (E : DX) : IEs → Env' → Sto → (List D → Sto → Prop) → Prop
  | .nil, _, S, Q => Q [] S
  | .cons e es, δ, S, Q => dE E e δ S fun x S1 => dA E es δ S1 fun xs S2 => Q (x :: xs) S2
def dO (E : DX) : IO → Env' → Sto → (Option Int → Sto → Prop) → Prop
  | .none, _, S, Q => Q none S
  | .some e, δ, S, Q => dE E e δ S fun x S1 => match x with
    | .int i => Q (some i) S1
    | _ => False
def dW (E : DX) : IW → Env' → Sto → (List D → (Sto → Prop) → Sto → Prop) → Prop
  | .seq e, δ, S, Q => dE E e δ S fun x S1 => seqO x S1 fun ds G => Q ds G S1
  | .rng1 a, δ, S, Q => dE E a δ S fun x S1 => match x with
    | .int j => -(2 ^ 62) ≤ j ∧ j < 2 ^ 62 ∧ Q (rangeD 0 j.toNat) (fun _ => True) S1
    | _ => False
  | .rng2 a b, δ, S, Q => dE E a δ S fun x S1 => dE E b δ S1 fun y S2 => match x, y with
    | .int i, .int j => (-(2 ^ 62) ≤ i ∧ i < 2 ^ 62 ∧ -(2 ^ 62) ≤ j ∧ j < 2 ^ 62) ∧ Q (rangeD i (j - i).toNat) (fun _ => True) S2
    | _, _ => False
def dCs (E : DX) : IEs → Env' → Sto → (Bool → Sto → Prop) → Prop
  | .nil, _, S, Q => Q true S
  | .cons e .nil, δ, S, Q => dE E e δ S fun x S1 => match x with
    | .bl k => Q k S1
    | _ => False
  | .cons _ (.cons _ _), _, _, _ => False
end
structure DEnds where
  nx : Env' → Sto → Prop
  rt : DK
  bk : Env' → Sto → Prop := fun _ _ => False
  ct : Env' → Sto → Prop := fun _ _ => False
def forL (G : Sto → Prop) (step : D → (Env' → Sto → Prop) → Env' → Sto → Prop) (nx : Env' → Sto → Prop) : List D → Env' → Sto → Prop
  | [], δ, S => G S ∧ nx δ S
  | d :: ds, δ, S => G S ∧ step d (fun δ' S' => ∃ T, Sub T S' ∧ forL G step nx ds δ' T) δ S
def whL (test : Env' → Sto → DK → Prop) (step : (Env' → Sto → Prop) → Env' → Sto → Prop) (nx : Env' → Sto → Prop) : Nat → Env' → Sto → Prop
  | 0, _, _ => False
  | n + 1, δ, S => test δ S fun x S1 => match x with
    | .bl true => step (fun δ' S' => ∃ T, Sub T S' ∧ whL test step nx n δ' T) δ S1
    | .bl false => nx δ S1
    | _ => False
section
variable (Γ : Gm) (E : DXS)
mutual
def dS : IS → DEnds → Env' → Sto → Prop
  | .setv i e, D, δ, S => dE Γ (fun c fs S' => E c fs δ S') e δ S fun x S1 => D.nx (δ.set i (some x)) S1
  | .setlc i e, D, δ, S => dE Γ (fun c fs S' => E c fs δ S') e δ S fun x S1 => D.nx (δ.set i (some x)) S1
  | .sett is e, D, δ, S => dE Γ (fun c fs S' => E c fs δ S') e δ S fun x S1 => tgO (.t is) x δ fun δ' => D.nx δ' S1
  | .par i j a b, D, δ, S => dE Γ (fun c fs S' => E c fs δ S') a δ S fun x S1 => dE Γ (fun c fs S' => E c fs δ S') b δ S1 fun y S2 => D.nx ((δ.set i (some x)).set j (some y)) S2
  | .sets o i e, D, δ, S => dE Γ (fun c fs S' => E c fs δ S') e δ S fun z S1 => dE Γ (fun c fs S' => E c fs δ S') o δ S1 fun x S2 => dE Γ (fun c fs S' => E c fs δ S') i δ S2 fun y S3 => match x, y with
    | .loc a, .int k => ∃ xs j, S3 a = some (.lst xs) ∧ ixN xs.length k = some j ∧ D.nx δ (put S3 a (.lst (xs.set j z)))
    | _, _ => False
  | .setf o f e, D, δ, S => dE Γ (fun c fs S' => E c fs δ S') e δ S fun z S1 => dE Γ (fun c fs S' => E c fs δ S') o δ S1 fun x S2 => match x with
    | .loc a => match S2 a with
      | some (.ins C dx k fs) => C = Γ.cls k ∧ Γ.fok k f = true ∧ fs.length < 1000 ∧ D.nx δ (put S2 a (.ins C dx k (putD f z fs)))
      | _ => False
    | _ => False
  | .augf o f op e, D, δ, S => dE Γ (fun c fs S' => E c fs δ S') o δ S fun x S1 => match x with
    | .loc a => match S1 a with
      | some (.ins C dx k fs) => C = Γ.cls k ∧ Γ.fok k f = true ∧ match fs.lookup f with
        | some (.int i) => dE Γ (fun c fs S' => E c fs δ S') e δ S1 fun y S2 => match y with
          | .int j => ∃ dx' k' fs', S2 a = some (.ins C dx' k' fs') ∧ fs'.length < 1000 ∧ (match op with
            | .add => D.nx δ (put S2 a (.ins C dx' k' (putD f (.int (i + j)) fs')))
            | .sub => D.nx δ (put S2 a (.ins C dx' k' (putD f (.int (i - j)) fs')))
            | _ => False)
          | _ => False
        | _ => False
      | _ => False
    | _ => False
  | .expr e, D, δ, S => dE Γ (fun c fs S' => E c fs δ S') e δ S fun _ S1 => D.nx δ S1
  | .ret e, D, δ, S => dE Γ (fun c fs S' => E c fs δ S') e δ S D.rt
  | .retN, D, δ, S => D.rt .non S
  | .ifs t a b, D, δ, S => dE Γ (fun c fs S' => E c fs δ S') t δ S fun x S1 => match x with
    | .bl true => dB a D δ S1
    | .bl false => dB b D δ S1
    | _ => False
  | .for_ w t b, D, δ, S => dW Γ (fun c fs S' => E c fs δ S') w δ S fun ds G S1 =>
      forL G (fun d k δ1 S2 => tgO t d δ1 fun δ2 => dB b { D with nx := k, ct := k, bk := D.nx } δ2 S2) D.nx ds δ S1
  | .while_ t b, D, δ, S => ∃ n, whL (fun δ S Q => dE Γ (fun c fs S' => E c fs δ S') t δ S Q) (fun k δ1 S2 => dB b { D with nx := k, ct := k, bk := D.nx } δ1 S2) D.nx n δ S
  | .pass, D, δ, S => D.nx δ S
  | .brk, D, δ, S => D.bk δ S
  | .cont, D, δ, S => D.ct δ S
def dB : IB → DEnds → Env' → Sto → Prop
  | .nil, D, δ, S => D.nx δ S
  | .cons s .nil, D, δ, S => dS s D δ S
  | .cons s (.cons s2 b), D, δ, S => dS s { D with nx := dB (.cons s2 b) D } δ S
end
end
end
end Z
namespace Z
open PySem PySem.Spec PyProof.Rows L2
/-- what the tracked side wants behind what the plain side wants -/
def Ct (K : PySem.W.Frag) (H : Hp) (Q0 : DK) (Q : VK) : Prop := ∀ d S', Q0 d S' → ∀ v H', Lt K H H' → Rep K H' d v → HR K H' S' → Q v H'
/-- a reading by plain data -/
def LE (K : PySem.W.Frag) (w : Env' → Sto → DK → Prop) : TE := fun σ H Q => ∃ δ S Q0, SR K H δ σ ∧ HR K H S ∧ w δ S Q0 ∧ Ct K H Q0 Q
def LT (K : PySem.W.Frag) (w : Env' → Sto → (Bool → Sto → Prop) → Prop) : TT := fun σ H Q => ∃ δ S Q0, SR K H δ σ ∧ HR K H S ∧ w δ S Q0 ∧ ∀ b S', Q0 b S' → ∀ H', Lt K H H' → HR K H' S' → Q b H'
def LA (K : PySem.W.Frag) (w : Env' → Sto → (List D → Sto → Prop) → Prop) : TA := fun σ H Q => ∃ δ S Q0, SR K H δ σ ∧ HR K H S ∧ w δ S Q0 ∧ ∀ ds S', Q0 ds S' → ∀ vs H', Lt K H H' → Reps K H' ds vs → HR K H' S' → Q vs H'
theorem _root_.L2.PE.imp {X : Cx} {e : Expr} {t t' : TE} (h : PE X e t) (i : ∀ σ H Q, t' σ H Q → t σ H Q) : PE X e t' := ⟨fun pins s σ H Q I q => h.run pins s σ H Q I (i σ H Q q)⟩
theorem _root_.L2.PT.imp {X : Cx} {e : Expr} {t t' : TT} (h : PT X e t) (i : ∀ σ H Q, t' σ H Q → t σ H Q) : PT X e t' := ⟨fun pins s σ H Q I q => h.run pins s σ H Q I (i σ H Q q)⟩
theorem _root_.L2.PW.imp {X : Cx} {e : Expr} {t t' : TT} (h : PW X e t) (i : ∀ σ H Q, t' σ H Q → t σ H Q) : PW X e t' := ⟨fun wh pins s σ H Q I q => h.run wh pins s σ H Q I (i σ H Q q)⟩
theorem _root_.L2.PA.imp {X : Cx} {e : List Expr} {t t' : TA} (h : PA X e t) (i : ∀ σ H Q, t' σ H Q → t σ H Q) : PA X e t' := ⟨fun pos pins s σ H Q I q => h.run pos pins s σ H Q I (i σ H Q q)⟩
theorem _root_.L2.PS.imp {X : Cx} {e : Stmt} {t t' : TS} (h : PS X e t) (i : ∀ D σ H, t' D σ H → t D σ H) : PS X e t' := ⟨fun pins s σ H D I q => h.run pins s σ H D I (i D σ H q)⟩
theorem _root_.L2.PSs.imp {X : Cx} {e : List Stmt} {t t' : TS} (h : PSs X e t) (i : ∀ D σ H, t' D σ H → t D σ H) : PSs X e t' := ⟨fun pins s σ H D I q => h.run pins s σ H D I (i D σ H q)⟩
theorem _root_.L2.PI.imp {X : Cx} {tg e : Expr} {t t' : TI} (h : PI X tg e t) (i : ∀ σ H Q, t' σ H Q → t σ H Q) : PI X tg e t' := ⟨fun pins s σ H Q I q => h.run pins s σ H Q I (i σ H Q q)⟩
section
variable {K : PySem.W.Frag} {H H' : Hp} {S : Sto} {Q0 : DK} {Q : VK}
theorem Ct.mono (c : Ct K H Q0 Q) (l : Lt K H H') : Ct K H' Q0 Q := fun d S' q v H2 l2 r h => c d S' q v H2 (l.trans l2) r h
theorem Ct.same {d : D} {v : V} (c : Ct K H Q0 Q) (q : Q0 d S) (r : Rep K H d v) (h : HR K H S) : Q v H := c d S q v H Lt.refl r h
theorem Ct.int {i : Int} (c : Ct K H Q0 Q) (h : HR K H S) (q : Q0 (.int i) S) : Q (.int i) H := c.same q rfl h
theorem Ct.str {i : Str} (c : Ct K H Q0 Q) (h : HR K H S) (q : Q0 (.str i) S) : Q (.str i) H := c.same q rfl h
theorem Ct.bl {i : Bool} (c : Ct K H Q0 Q) (h : HR K H S) (q : Q0 (.bl i) S) : Q (.bl i) H := c.same q rfl h
theorem Ct.newL {p : Addr} {ds : List D} {vs : List V} (c : Ct K H Q0 Q) (h : HR K H S) (hp : H p = none) (r : Reps K H ds vs) (q : S p = none → Q0 (.loc p) (put S p (.lst ds))) : Q (.ref p) (upd H p (.lst vs)) := by
  have l : Lt K H (upd H p (.lst vs)) := Lt.newO hp
  exact c _ _ (q (h.fresh hp)) _ _ l rfl (h.putO l ⟨vs, upd_same, r.mono l⟩)
theorem Ct.newT {p : Addr} {ds : List D} {vs : List V} (c : Ct K H Q0 Q) (h : HR K H S) (hp : H p = none) (r : Reps K H ds vs) (q : Q0 (.tup ds) S) : Q (.ref p) (upd H p (.tup vs)) := by
  have l : Lt K H (upd H p (.tup vs)) := Lt.newO hp
  exact c _ _ q _ _ l ⟨p, vs, rfl, SqT.of upd_same, r.mono l⟩ (h.newO (h.fresh hp) l)
theorem Ct.setL {p : Addr} {ds : List D} {vs ws : List V} {d : D} {v : V} (c : Ct K H Q0 Q) (h : HR K H S) (hp : H p = some (.lst ws)) (r : Reps K H ds vs) (q : Q0 d (put S p (.lst ds))) (rd : Rep K H d v) : Q v (upd H p (.lst vs)) := by
  have l : Lt K H (upd H p (.lst vs)) := Lt.lstO hp
  exact c _ _ q _ _ l (rd.mono l) (h.putO l ⟨vs, upd_same, r.mono l⟩)
theorem HR.lst {a : Addr} {ds : List D} (h : HR K H S) (e : S a = some (.lst ds)) : ∃ vs, H a = some (.lst vs) ∧ Reps K H ds vs := h a _ e
theorem flatV_of {d : D} {v : V} (r : Rep K H d v) (f : flatD d = true) : flatV v = true := by
  cases d <;> first | (cases (show _ = _ from r); rfl) | cases f
theorem eqV_of {d e : D} {v u : V} (r : Rep K H d v) (f : flatD d = true) (r2 : Rep K H e u) (f2 : flatD e = true) : eqV v u = eqD d e := by
  cases d <;> first
    | (cases f; done)
    | (cases (show _ = _ from r); cases e <;> first
        | (cases f2; done)
        | (cases (show _ = _ from r2); rfl))
theorem flats_of : ∀ {ds : List D} {vs : List V}, Reps K H ds vs → ds.all flatD = true → vs.all flatV = true
  | [], _, h, _ => by cases (show _ = [] from h); rfl
  | _ :: _, _, ⟨v, r, e, q, t⟩, f => by
    subst e
    simp only [List.all_cons, Bool.and_eq_true] at f ⊢
    exact ⟨flatV_of q f.1, flats_of t f.2⟩
theorem inV_of {d : D} {v : V} (r : Rep K H d v) (f : flatD d = true) : ∀ {ds : List D} {vs : List V}, Reps K H ds vs → ds.all flatD = true → inV v vs = inD d ds
  | [], _, h, _ => by cases (show _ = [] from h); rfl
  | _ :: _, _, ⟨w, rr, e, q, t⟩, g => by
    subst e
    simp only [List.all_cons, Bool.and_eq_true] at g
    have ih := inV_of r f t g.2
    unfold inV inD at ih ⊢
    rw [List.any_cons, List.any_cons, ih, eqV_of q g.1 r f]
theorem sq_lst {a : Addr} {ds : List D} (h : HR K H S) (e : S a = some (.lst ds)) : ∃ vs, SqL K H a vs ∧ Reps K H ds vs := let ⟨vs, h1, h2⟩ := h.lst e; ⟨vs, SqL.of h1, h2⟩
mutual
theorem DP.dp (h : HR K H S) : ∀ {d : D} {p : PyData} {v : V}, DP S d p → Rep K H d v → Dp K H v p
  | _, _, _, .non, r => by cases (show _ = _ from r); exact .non
  | _, _, _, .bl b, r => by cases (show _ = _ from r); exact .bl b
  | _, _, _, .int b, r => by cases (show _ = _ from r); exact .int b
  | _, _, _, .str b, r => by cases (show _ = _ from r); exact .str b
  | _, _, _, .lst e q, r => by
    cases (show _ = _ from r)
    obtain ⟨vs, h1, h2⟩ := sq_lst h e
    exact .lst h1 (DPs.dp h q h2)
  | _, _, _, .rl q, ⟨a, vs, e, h1, h2⟩ => by subst e; exact .lst h1.sq (DPs.dp h q h2)
  | _, _, _, .tup q, ⟨a, vs, e, h1, h2⟩ => by subst e; exact .tup h1 (DPs.dp h q h2)
theorem DPs.dp (h : HR K H S) : ∀ {ds : List D} {ps : List PyData} {vs : List V}, DPs S ds ps → Reps K H ds vs → DpAll K H vs ps
  | _, _, _, .nil, r => by cases (show _ = [] from r); exact .nil
  | _, _, _, .cons q qs, ⟨v, r, e, h1, h2⟩ => by subst e; exact .cons (DP.dp h q h1) (DPs.dp h qs h2)
end
theorem atI_rep {ds : List D} {vs : List V} {i : Int} {d : D} (r : Reps K H ds vs) (e : atI ds i = some d) : ∃ v, atI vs i = some v ∧ Rep K H d v := by
  unfold atI at e ⊢
  rw [← r.length]
  cases q : ixN ds.length i with
  | none => rw [q] at e; cases e
  | some j =>
    rw [q] at e
    exact r.get e
theorem cut_rep {ds : List D} {vs : List V} {lo hi : Option Int} (r : Reps K H ds vs) : Reps K H (cutD ds lo hi) (cutV vs lo hi) := by
  unfold cutD cutV
  rw [r.length]
  exact (r.drop _).take _
theorem ints_rep : ∀ {ns : List Int} {vs : List V}, Reps K H (ns.map D.int) vs → vs = ns.map V.int
  | [], _, h => h
  | n :: ns, _, ⟨v, r, e, q, t⟩ => by rw [e, show v = V.int n from q, ints_rep t] <;> rfl
theorem bls_rep : ∀ {ns : List Bool} {vs : List V}, Reps K H (ns.map D.bl) vs → vs = ns.map V.bl
  | [], _, h => h
  | n :: ns, _, ⟨v, r, e, q, t⟩ => by rw [e, show v = V.bl n from q, bls_rep t] <;> rfl
theorem strs_rep : ∀ {ns : List Str}, Reps K H (ns.map D.str) (ns.map V.str)
  | [] => rfl
  | n :: ns => ⟨.str n, _, rfl, rfl, strs_rep⟩
theorem reps1 {d : D} {vs : List V} (r : Reps K H [d] vs) : ∃ v, vs = [v] ∧ Rep K H d v := by
  obtain ⟨v, r, e, q, t⟩ := r
  cases (show _ = [] from t)
  exact ⟨v, e, q⟩
theorem reps2 {d e : D} {vs : List V} (r : Reps K H [d, e] vs) : ∃ v u, vs = [v, u] ∧ Rep K H d v ∧ Rep K H e u := by
  obtain ⟨v, r, e, q, t⟩ := r
  obtain ⟨u, e2, q2⟩ := reps1 t
  subst e2
  exact ⟨v, u, e, q, q2⟩
end
def B2.op : B2 → Operator
  | .add => .Add | .sub => .Sub | .mul => .Mult | .fdiv => .FloorDiv | .mod => .Mod | .pow => .Pow
def rB (K : PySem.W.Frag) : B2 → R2
  | .add => fun x y H Q => rI0 (fun i j => .int (i + j)) x y H Q ∨ ((∃ i j, x = .str i ∧ y = .str j ∧ i.length + j.length ≤ sizeLine ∧ Q (.str (i ++ j)) H) ∨ (rCat x y H Q ∨ rCatA K x y H Q))
  | .sub => rI0 fun i j => .int (i - j)
  | .mul => fun x y H Q => rI CMul (fun i j => .int (i * j)) x y H Q ∨ (rRep x y H Q ∨ rRepT K x y H Q)
  | .fdiv => rI CDivN fun i j => .int (i.fdiv j)
  | .mod => rI (fun _ j => j ≠ 0) fun i j => .int (i.fmod j)
  | .pow => rI CPow fun i j => .int (i ^ j.toNat)
theorem opB {X : Cx} : ∀ o : B2, OpR X (binaryOp o.op) (rB X.K o)
  | .add => op_add.or (op_add_str.or (op_cat.or op_catA))
  | .sub => op_sub
  | .mul => op_mul.or (op_rep.or op_repT)
  | .fdiv => op_fdivN
  | .mod => op_modN
  | .pow => op_pow
section
variable {K : PySem.W.Frag} {H H' : Hp} {S : Sto} {Q0 : DK} {Q : VK} {x y : D} {v u : V}
theorem flatten_rep {ds : List D} {vs : List V} (r : Reps K H ds vs) : ∀ n, Reps K H (List.replicate n ds).flatten (List.replicate n vs).flatten
  | 0 => rfl
  | n + 1 => by
    rw [List.replicate_succ, List.replicate_succ, List.flatten_cons, List.flatten_cons]
    exact r.append (flatten_rep r n)
theorem bop_r {o : B2} (q : bop o x y S Q0) (rx : Rep K H x v) (ry : Rep K H y u) (h : HR K H S) (c : Ct K H Q0 Q) : rB K o v u H Q := by
  unfold bop at q
  split at q
  · cases (show _ = _ from rx); cases (show _ = _ from ry)
    exact .inl ⟨_, _, rfl, rfl, c.int h q⟩
  · cases (show _ = _ from rx); cases (show _ = _ from ry)
    exact .inr (.inl ⟨_, _, rfl, rfl, q.1, c.str h q.2⟩)
  · obtain ⟨a, vs, rfl, s1, r1⟩ := rx
    obtain ⟨b, us, rfl, s2, r2⟩ := ry
    obtain ⟨hz, q⟩ := q
    refine .inr (.inr (.inr ⟨a, b, vs, us, rfl, rfl, s1, s2, by rw [← r1.length, ← r2.length]; exact hz, fun e => ?_, fun _ e => ?_, fun _ _ p hp => ?_⟩))
    · subst e
      have e2 := List.eq_nil_of_length_eq_zero r1.length
      subst e2
      exact c.same q ⟨b, us, rfl, s2, r2⟩ h
    · subst e
      have e2 := List.eq_nil_of_length_eq_zero r2.length
      subst e2
      rw [List.append_nil] at q
      exact c.same q ⟨a, vs, rfl, s1, r1⟩ h
    · exact c.newT h hp (r1.append r2) q
  · cases (show _ = _ from rx); cases (show _ = _ from ry)
    obtain ⟨xs, ys, e1, e2, hz, q⟩ := q
    obtain ⟨vs, h1, r1⟩ := h.lst e1
    obtain ⟨us, h2, r2⟩ := h.lst e2
    exact .inr (.inr (.inl ⟨_, _, vs, us, rfl, rfl, h1, h2, by rw [← r1.length, ← r2.length]; exact hz, fun p hp => c.newL h hp (r1.append r2) (q p)⟩))
  · cases (show _ = _ from rx); cases (show _ = _ from ry)
    exact ⟨_, _, rfl, rfl, c.int h q⟩
  · cases (show _ = _ from rx); cases (show _ = _ from ry)
    exact .inl ⟨_, _, rfl, rfl, q.1, c.int h q.2⟩
  · cases (show _ = _ from rx); cases (show _ = _ from ry)
    obtain ⟨xs, e1, h1, h2, hz, q⟩ := q
    obtain ⟨vs, g1, r1⟩ := h.lst e1
    exact .inr (.inl ⟨_, _, vs, rfl, rfl, g1, h1, h2, by rw [← r1.length]; exact hz, fun p hp => c.newL h hp (flatten_rep r1 _) (q p)⟩)
  · obtain ⟨a, vs, rfl, s1, r1⟩ := rx
    cases (show _ = _ from ry)
    obtain ⟨h1, h2, h3, h4, q⟩ := q
    refine .inr (.inr ⟨a, _, vs, rfl, rfl, s1, fun e => h1 ?_, h2, h3, by rw [← r1.length]; exact h4, fun p hp => c.newT h hp (flatten_rep r1 _) q⟩)
    subst e
    exact List.eq_nil_of_length_eq_zero r1.length
  · cases (show _ = _ from rx); cases (show _ = _ from ry)
    exact ⟨_, _, rfl, rfl, q.1, c.int h q.2⟩
  · cases (show _ = _ from rx); cases (show _ = _ from ry)
    exact ⟨_, _, rfl, rfl, q.1, c.int h q.2⟩
  · cases (show _ = _ from rx); cases (show _ = _ from ry)
    exact ⟨_, _, rfl, rfl, q.1, c.int h q.2⟩
  · exact q.elim
end
def Cm.op : Cm → CmpOp
  | .eq => .Eq | .ne => .NotEq | .lt => .Lt | .le => .LtE | .gt => .Gt | .ge => .GtE | .inn => .In | .nin => .NotIn | .isN => .Is | .notN => .IsNot
def rC (K : PySem.W.Frag) : Cm → R2
  | .eq => fun x y H Q => rEq x y H Q ∨ rEqD K x y H Q
  | .ne => fun x y H Q => rNe x y H Q ∨ rNeD K x y H Q
  | .lt => rI0 fun i j => .bl (decide (i < j))
  | .le => rI0 fun i j => .bl (decide (i ≤ j))
  | .gt => rI0 fun i j => .bl (decide (j < i))
  | .ge => rI0 fun i j => .bl (decide (j ≤ i))
  | .inn => fun x y H Q => (∃ (c : Nat) (z : Str), x = .str ⟨#[c]⟩ ∧ y = .str z ∧ Q (.bl (decide (c ∈ z.cps.toList))) H) ∨ rIn K false x y H Q
  | .nin => fun x y H Q => (∃ (c : Nat) (z : Str), x = .str ⟨#[c]⟩ ∧ y = .str z ∧ Q (.bl (!decide (c ∈ z.cps.toList))) H) ∨ rIn K true x y H Q
  | .isN => fun x y H Q => y = .non ∧ Q (.bl (decide (x = .non))) H
  | .notN => fun x y H Q => y = .non ∧ Q (.bl (!decide (x = .non))) H
theorem opC {X : Cx} (hu : X.A.units + 64 < cLine) : ∀ o : Cm, OpR X (compareOp o.op) (rC X.K o)
  | .eq => op_eq.or (op_eqD hu)
  | .ne => op_ne.or (op_neD hu)
  | .lt => op_lt
  | .le => op_le
  | .gt => op_gt
  | .ge => op_ge
  | .inn => op_in_sign.or op_in_seq
  | .nin => op_notIn_sign.or op_notIn_seq
  | .isN => op_isN
  | .notN => op_notN
section
variable {K : PySem.W.Frag} {H H' : Hp} {S : Sto} {Q : VK} {x y : D} {v u : V}
theorem isNon_of (r : Rep K H x v) : decide (v = V.non) = isNon x := by
  cases x <;> first
    | (cases (show _ = _ from r); rfl)
    | (obtain ⟨a, vs, e, _⟩ := r; subst e; rfl)
theorem eqO_r {neg : Bool} {P : Bool → Prop} (q : eqO neg x y S P) (rx : Rep K H x v) (ry : Rep K H y u) (h : HR K H S) (c : ∀ b, P b → Q (.bl b) H) : rC K (if neg then .ne else .eq) v u H Q := by
  unfold eqO at q
  split at q
  · cases (show _ = _ from rx); cases (show _ = _ from ry)
    rename_i i j
    have e : decide (V.int i = V.int j) = decide (i = j) := by by_cases h : i = j <;> simp [h]
    cases neg with
    | false => exact .inl ⟨rfl, c _ (by rw [e]; simpa using q)⟩
    | true => exact .inl ⟨rfl, c _ (by rw [e]; simpa using q)⟩
  · cases (show _ = _ from rx); cases (show _ = _ from ry)
    rename_i i j
    have e : decide (V.str i = V.str j) = decide (i = j) := by by_cases h : i = j <;> simp [h]
    cases neg with
    | false => exact .inl ⟨rfl, c _ (by rw [e]; simpa using q)⟩
    | true => exact .inl ⟨rfl, c _ (by rw [e]; simpa using q)⟩
  · cases (show _ = _ from rx); cases (show _ = _ from ry)
    rename_i i j
    have e : decide (V.bl i = V.bl j) = decide (i = j) := by by_cases h : i = j <;> simp [h]
    cases neg with
    | false => exact .inl ⟨rfl, c _ (by rw [e]; simpa using q)⟩
    | true => exact .inl ⟨rfl, c _ (by rw [e]; simpa using q)⟩
  · obtain ⟨d, e, h1, h2, h3, h4, q⟩ := q
    cases neg with
    | false => exact .inr ⟨d, e, DP.dp h h1 rx, DP.dp h h2 ry, h3, h4, c _ (by simpa using q)⟩
    | true => exact .inr ⟨d, e, DP.dp h h1 rx, DP.dp h h2 ry, h3, h4, c _ (by simpa using q)⟩
theorem inO_r {neg : Bool} {P : Bool → Prop} (q : inO neg x y S P) (rx : Rep K H x v) (ry : Rep K H y u) (h : HR K H S) (c : ∀ b, P b → Q (.bl b) H) : rC K (if neg then .nin else .inn) v u H Q := by
  unfold inO at q
  have go : ∀ {a : Addr} {ys : List D} {us : List V}, u = .ref a → (SqL K H a us ∨ SqT K H a us) → Reps K H ys us → flatD x = true → ys.all flatD = true → P (neg ^^ inD x ys) → rC K (if neg then .nin else .inn) v u H Q := by
    intro a ys us e sq r f1 f2 q
    have hI := inV_of rx f1 r f2
    cases neg with
    | false => exact .inr ⟨a, us, e, sq, flatV_of rx f1, flats_of r f2, c _ (by rw [hI]; simpa using q)⟩
    | true => exact .inr ⟨a, us, e, sq, flatV_of rx f1, flats_of r f2, c _ (by rw [hI]; simpa using q)⟩
  split at q
  · cases (show _ = _ from rx); cases (show _ = _ from ry)
    obtain ⟨k, rfl, q⟩ := q
    cases neg with
    | false => exact .inl ⟨k, _, rfl, rfl, c _ (by simpa using q)⟩
    | true => exact .inl ⟨k, _, rfl, rfl, c _ (by simpa using q)⟩
  · obtain ⟨a, us, e, sq, r⟩ := ry
    exact go e (.inr sq) r q.1 q.2.1 q.2.2
  · obtain ⟨a, us, e, sq, r⟩ := ry
    exact go e (.inl sq.sq) r q.1 q.2.1 q.2.2
  · obtain ⟨ys, e, q⟩ := q
    obtain ⟨us, h1, r⟩ := sq_lst h e
    exact go (show u = _ from ry) (.inl h1) r q.1 q.2.1 q.2.2
  · exact q.elim
theorem cop_r {o : Cm} {P : Bool → Prop} (q : cop o x y S P) (rx : Rep K H x v) (ry : Rep K H y u) (h : HR K H S) (c : ∀ b, P b → Q (.bl b) H) : rC K o v u H Q := by
  cases o with
  | eq => exact eqO_r (neg := false) q rx ry h c
  | ne => exact eqO_r (neg := true) q rx ry h c
  | inn => exact inO_r (neg := false) q rx ry h c
  | nin => exact inO_r (neg := true) q rx ry h c
  | isN =>
    obtain ⟨e, q⟩ := q
    subst e
    exact ⟨ry, c _ (by rw [isNon_of rx]; exact q)⟩
  | notN =>
    obtain ⟨e, q⟩ := q
    subst e
    exact ⟨ry, c _ (by rw [isNon_of rx]; exact q)⟩
  | lt =>
    unfold cop at q
    dsimp only at q
    split at q
    · cases (show _ = _ from rx); cases (show _ = _ from ry); exact ⟨_, _, rfl, rfl, c _ q⟩
    · exact q.elim
  | le =>
    unfold cop at q
    dsimp only at q
    split at q
    · cases (show _ = _ from rx); cases (show _ = _ from ry); exact ⟨_, _, rfl, rfl, c _ q⟩
    · exact q.elim
  | gt =>
    unfold cop at q
    dsimp only at q
    split at q
    · cases (show _ = _ from rx); cases (show _ = _ from ry); exact ⟨_, _, rfl, rfl, c _ q⟩
    · exact q.elim
  | ge =>
    unfold cop at q
    dsimp only at q
    split at q
    · cases (show _ = _ from rx); cases (show _ = _ from ry); exact ⟨_, _, rfl, rfl, c _ q⟩
    · exact q.elim
theorem ixO_r {P : D → Prop} (q : ixO x y S P) (rx : Rep K H x v) (ry : Rep K H y u) (h : HR K H S) (c : ∀ d w, P d → Rep K H d w → Q w H) : rIx K v u H Q := by
  unfold ixO at q
  split at q
  · obtain ⟨a, us, rfl, sq, r⟩ := rx
    cases (show _ = _ from ry)
    obtain ⟨d, e, q⟩ := q
    obtain ⟨w, e1, r1⟩ := atI_rep r e
    exact .inr (.inl ⟨a, us, _, w, rfl, rfl, sq, e1, c d w q r1⟩)
  · obtain ⟨a, us, rfl, sq, r⟩ := rx
    cases (show _ = _ from ry)
    obtain ⟨d, e, q⟩ := q
    obtain ⟨w, e1, r1⟩ := atI_rep r e
    exact .inl ⟨a, us, _, w, rfl, rfl, sq.sq, e1, c d w q r1⟩
  · cases (show _ = _ from rx); cases (show _ = _ from ry)
    obtain ⟨xs, d, e0, e, q⟩ := q
    obtain ⟨us, sq, r⟩ := sq_lst h e0
    obtain ⟨w, e1, r1⟩ := atI_rep r e
    exact .inl ⟨_, us, _, w, rfl, rfl, sq, e1, c d w q r1⟩
  · cases (show _ = _ from rx); cases (show _ = _ from ry)
    obtain ⟨hz, k, e, q⟩ := q
    exact .inr (.inr ⟨_, _, k, rfl, rfl, hz, e, c _ _ q rfl⟩)
  · exact q.elim
def rSl (K : PySem.W.Frag) : V → Option Int → Option Int → Hp → VK → Prop := fun x lo hi H Q => rSlL K x lo hi H Q ∨ (rSlA K x lo hi H Q ∨ rSlS x lo hi H Q)
theorem slAll {X : Cx} : SlR X (rSl X.K) := sl_list.or (sl_tupA.or sl_str)
theorem cut_whole {ds : List D} {lo hi : Option Int} (h : HT.sIx ds.length 0 lo = 0 ∧ HT.sIx ds.length ds.length hi = ds.length) : cutD ds lo hi = ds := by
  unfold cutD
  rw [h.1, h.2, List.drop_zero, Nat.sub_zero, List.take_length]
theorem slO_r {lo hi : Option Int} {Q0 : DK} (q : slO x lo hi S Q0) (rx : Rep K H x v) (h : HR K H S) (c : Ct K H Q0 Q) : rSl K v lo hi H Q := by
  unfold slO at q
  split at q
  · obtain ⟨a, us, rfl, sq, r⟩ := rx
    refine .inr (.inl ⟨a, us, rfl, sq, fun hw => ?_, fun _ p hp => c.newT h hp (cut_rep r) q⟩)
    rw [← r.length] at hw
    rw [cut_whole hw] at q
    exact c.same q ⟨a, us, rfl, sq, r⟩ h
  · obtain ⟨a, us, rfl, sq, r⟩ := rx
    exact .inl ⟨a, us, rfl, sq.sq, fun p hp => c.newL h hp (cut_rep r) (q p)⟩
  · cases (show _ = _ from rx)
    obtain ⟨xs, e0, q⟩ := q
    obtain ⟨us, sq, r⟩ := sq_lst h e0
    exact .inl ⟨_, us, rfl, sq, fun p hp => c.newL h hp (cut_rep r) (q p)⟩
  · cases (show _ = _ from rx)
    exact .inr (.inr ⟨_, rfl, q.1, c.str h q.2⟩)
  · exact q.elim
theorem listO_r {P : List D → Prop} (q : listO x S P) (rx : Rep K H x v) (h : HR K H S) : ∃ a ds vs, v = .ref a ∧ SqL K H a vs ∧ Reps K H ds vs ∧ P ds := by
  unfold listO at q
  split at q
  · obtain ⟨a, us, rfl, sq, r⟩ := rx
    exact ⟨a, _, us, rfl, sq.sq, r, q⟩
  · cases (show _ = _ from rx)
    obtain ⟨xs, e0, q⟩ := q
    obtain ⟨us, sq, r⟩ := sq_lst h e0
    exact ⟨_, _, us, rfl, sq, r, q⟩
  · exact q.elim
theorem itemsO_r {P : List D → Prop} (q : itemsO x S P) (rx : Rep K H x v) (h : HR K H S) : ∃ a ds vs, v = .ref a ∧ (SqL K H a vs ∨ SqT K H a vs) ∧ Reps K H ds vs ∧ P ds := by
  unfold itemsO at q
  split at q
  · obtain ⟨a, us, rfl, sq, r⟩ := rx
    exact ⟨a, _, us, rfl, .inr sq, r, q⟩
  · obtain ⟨a, us, rfl, sq, r⟩ := rx
    exact ⟨a, _, us, rfl, .inl sq.sq, r, q⟩
  · cases (show _ = _ from rx)
    obtain ⟨xs, e0, q⟩ := q
    obtain ⟨us, sq, r⟩ := sq_lst h e0
    exact ⟨_, _, us, rfl, .inl sq, r, q⟩
  · exact q.elim
end
abbrev RC := List V → Hp → VK → Prop
theorem CallR.or {X : Cx} {f : Value} {r r' : RC} (h : CallR X f r) (h' : CallR X f r') : CallR X f (fun x H Q => r x H Q ∨ r' x H Q) := by
  intro pins s σ H xs us Q I rx q
  rcases q with q | q
  · exact h pins s σ H xs us Q I rx q
  · exact h' pins s σ H xs us Q I rx q
/-- the built-ins: by name, whether a class -/
def Bi.nm : Bi → Str
  | .len => "len" | .int => "int" | .str => "str" | .list => "list" | .tuple => "tuple" | .sum => "sum" | .all => "all" | .any => "any" | .max => "max" | .min => "min" | .abs => "abs"
def Bi.val : Bi → Value
  | .len => .builtin "len" | .int => .type "int" | .str => .type "str" | .list => .type "list" | .tuple => .type "tuple" | .sum => .builtin "sum" | .all => .builtin "all" | .any => .builtin "any" | .max => .builtin "max" | .min => .builtin "min" | .abs => .builtin "abs"
def rBi (K : PySem.W.Frag) : Bi → RC
  | .len => fun xs H Q => ∃ x n, xs = [x] ∧ LenV K x H n ∧ Q (.int n) H
  | .int => fun xs H Q => (∃ i, xs = [.int i] ∧ Q (.int i) H) ∨ ∃ k, xs = [.bl k] ∧ Q (.int (if k then 1 else 0)) H
  | .str => fun xs H Q => ∃ i : Int, xs = [.int i] ∧ i.natAbs.log2 < 1920 ∧ Q (.str (toString i)) H
  | .list => fun xs H Q => ∃ p ys, xs = [.ref p] ∧ (SqL K H p ys ∨ SqT K H p ys) ∧ ∀ l, H l = none → Q (.ref l) (upd H l (.lst ys))
  | .tuple => fun xs H Q => ∃ p ys, xs = [.ref p] ∧ ((SqL K H p ys ∧ ∀ l, H l = none → Q (.ref l) (upd H l (.tup ys))) ∨ (SqT K H p ys ∧ Q (.ref p) H))
  | .sum => rSum K
  | .all => rAll K
  | .any => rAny K
  | .max => fun xs H Q => (∃ i j, xs = [.int i, .int j] ∧ Q (.int (if j > i then j else i)) H) ∨ rMax K xs H Q
  | .min => fun xs H Q => (∃ i j, xs = [.int i, .int j] ∧ Q (.int (if j < i then j else i)) H) ∨ rMin K xs H Q
  | .abs => fun xs H Q => ∃ i, xs = [.int i] ∧ Q (.int (if i < 0 then -i else i)) H
theorem callBi {X : Cx} (hc : X.calm = true) : ∀ b : Bi, CallR X b.val (rBi X.K b)
  | .len => call_len
  | .int => call_int1
  | .str => call_str_int
  | .list => call_list_of
  | .tuple => call_tuple_of
  | .sum => cr_sum hc
  | .all => cr_all hc
  | .any => cr_any hc
  | .max => CallR.or (call_max2 hc) (cr_max hc)
  | .min => CallR.or (call_min2 hc) (cr_min hc)
  | .abs => call_abs
section
variable {K : PySem.W.Frag} {H H' : Hp} {S : Sto} {Q : VK} {x y : D} {v u : V}
theorem biO_r {b : Bi} {xs : List D} {vs : List V} {Q0 : DK} (q : biO b xs S Q0) (rx : Reps K H xs vs) (h : HR K H S) (c : Ct K H Q0 Q) : rBi K b vs H Q := by
  unfold biO at q
  split at q
  · obtain ⟨v, rfl, r⟩ := reps1 rx
    cases (show _ = _ from r)
    exact ⟨_, _, rfl, ⟨q.1, rfl⟩, c.int h q.2⟩
  · obtain ⟨v, rfl, r⟩ := reps1 rx
    obtain ⟨a, ds, vs, rfl, sq, r1, q⟩ := itemsO_r q r h
    refine ⟨_, ds.length, rfl, ?_, c.int h q⟩
    rcases sq with sq | sq
    · exact .inl ⟨vs, sq, r1.length⟩
    · exact .inr ⟨vs, sq, r1.length⟩
  · obtain ⟨v, rfl, r⟩ := reps1 rx
    cases (show _ = _ from r)
    exact .inl ⟨_, rfl, c.int h q⟩
  · obtain ⟨v, rfl, r⟩ := reps1 rx
    cases (show _ = _ from r)
    exact .inr ⟨_, rfl, c.int h q⟩
  · obtain ⟨v, rfl, r⟩ := reps1 rx
    cases (show _ = _ from r)
    exact ⟨_, rfl, q.1, c.str h q.2⟩
  · obtain ⟨v, rfl, r⟩ := reps1 rx
    obtain ⟨a, ds, vs, rfl, sq, r1, q⟩ := itemsO_r q r h
    exact ⟨a, vs, rfl, sq, fun p hp => c.newL h hp r1 (q p)⟩
  · obtain ⟨v, rfl, r⟩ := reps1 rx
    obtain ⟨a, us, rfl, sq, r1⟩ := id r
    exact ⟨a, us, rfl, .inr ⟨sq, c.same q r h⟩⟩
  · obtain ⟨v, rfl, r⟩ := reps1 rx
    obtain ⟨a, ds, vs, rfl, sq, r1, q⟩ := listO_r q r h
    exact ⟨a, vs, rfl, .inl ⟨sq, fun p hp => c.newT h hp r1 q⟩⟩
  · obtain ⟨v, rfl, r⟩ := reps1 rx
    obtain ⟨a, ds, vs, rfl, sq, r1, ns, rfl, q⟩ := listO_r q r h
    have e := ints_rep r1
    subst e
    exact ⟨a, ns, rfl, sq, c.int h q⟩
  · obtain ⟨v, rfl, r⟩ := reps1 rx
    obtain ⟨a, ds, vs, rfl, sq, r1, ns, rfl, q⟩ := listO_r q r h
    have e := bls_rep r1
    subst e
    exact ⟨a, ns, rfl, sq, c.bl h q⟩
  · obtain ⟨v, rfl, r⟩ := reps1 rx
    obtain ⟨a, ds, vs, rfl, sq, r1, ns, rfl, q⟩ := listO_r q r h
    have e := bls_rep r1
    subst e
    exact ⟨a, ns, rfl, sq, c.bl h q⟩
  · obtain ⟨v, u, rfl, r, r2⟩ := reps2 rx
    cases (show _ = _ from r); cases (show _ = _ from r2)
    exact .inl ⟨_, _, rfl, c.int h q⟩
  · obtain ⟨v, u, rfl, r, r2⟩ := reps2 rx
    cases (show _ = _ from r); cases (show _ = _ from r2)
    exact .inl ⟨_, _, rfl, c.int h q⟩
  · obtain ⟨v, rfl, r⟩ := reps1 rx
    obtain ⟨a, ds, vs, rfl, sq, r1, ns, rfl, q0, q⟩ := listO_r q r h
    have e := ints_rep r1
    subst e
    exact .inr ⟨a, ns, rfl, sq, q0, fun m h1 h2 => c.int h (q m h1 h2)⟩
  · obtain ⟨v, rfl, r⟩ := reps1 rx
    obtain ⟨a, ds, vs, rfl, sq, r1, ns, rfl, q0, q⟩ := listO_r q r h
    have e := ints_rep r1
    subst e
    exact .inr ⟨a, ns, rfl, sq, q0, fun m h1 h2 => c.int h (q m h1 h2)⟩
  · obtain ⟨v, rfl, r⟩ := reps1 rx
    cases (show _ = _ from r)
    exact ⟨_, rfl, c.int h q⟩
  · exact q.elim
end
def Mt.nm : Mt → Str
  | .append => "append" | .extend => "extend" | .pop => "pop" | .reverse => "reverse" | .split => "split" | .join => "join" | .isalnum => "isalnum" | .upper => "upper" | .lower => "lower"
def Mt.ty : Mt → String
  | .append => "list" | .extend => "list" | .pop => "list" | .reverse => "list" | _ => "str"
def Mt.id : Mt → String
  | .append => "list.append" | .extend => "list.extend" | .pop => "list.pop" | .reverse => "list.reverse" | .split => "str.split" | .join => "str.join" | .isalnum => "str.isalnum" | .upper => "str.upper" | .lower => "str.lower"
def rMt (K : PySem.W.Frag) : Mt → V → List V → Hp → VK → Prop
  | .append => rAppend
  | .extend => rExtend
  | .pop => fun x vs H Q => rPop x vs H Q ∨ rPopAt x vs H Q
  | .reverse => rReverse
  | .split => fun x xs H Q => ∃ a b, x = .str a ∧ xs = [.str b] ∧ (b.length == 0) = false ∧ a.length + 2 ≤ sizeLine ∧ rNewStrs (Txt.split a b) H Q
  | .join => fun x xs H Q => ∃ a p, ∃ ys : List Str, x = .str a ∧ xs = [.ref p] ∧ (SqL K H p (ys.map V.str) ∨ SqT K H p (ys.map V.str)) ∧ (ys.map (·.length)).sum + ys.length * a.length ≤ 16777216 ∧ Q (.str (Txt.join a ys)) H
  | .isalnum => fun x xs H Q => ∃ a, x = .str a ∧ xs = [] ∧ True ∧ Q (.bl (Txt.isalnum a)) H
  | .upper => fun x xs H Q => ∃ a, x = .str a ∧ xs = [] ∧ a.length ≤ 5592405 ∧ Q (.str (Txt.upper a)) H
  | .lower => fun x xs H Q => ∃ a, x = .str a ∧ xs = [] ∧ a.length ≤ 5592405 ∧ Q (.str (Txt.lower a)) H
theorem MtR.or {X : Cx} {id : String} {r r' : V → List V → Hp → VK → Prop} (h : MtR X id r) (h' : MtR X id r') : MtR X id (fun x vs H Q => r x vs H Q ∨ r' x vs H Q) := by
  intro pins s σ H x xs v us Q I rx rs q
  rcases q with q | q
  · exact h pins s σ H x xs v us Q I rx rs q
  · exact h' pins s σ H x xs v us Q I rx rs q
structure MtOk (X : Cx) (m : Mt) : Prop where
  pa : PlainAttrs m.ty
  slot : Slot m.ty m.nm m.id
  hty : typeOf (.builtin m.id) = pure (.type "method_descriptor")
  hm : MtR X m.id (rMt X.K m)
open PySem in
theorem mtOk {X : Cx} : ∀ m : Mt, MtOk X m
  | .append => ⟨F.plainAttrs_list, F.slot_list_append, F.type_list_append, mt_append⟩
  | .extend => ⟨F.plainAttrs_list, F.slot_list_extend, F.type_list_extend, mt_extend⟩
  | .pop => ⟨F.plainAttrs_list, F.slot_list_pop, F.type_list_pop, MtR.or mt_pop mt_popAt⟩
  | .reverse => ⟨F.plainAttrs_list, F.slot_list_reverse, F.type_list_reverse, mt_reverse⟩
  | .split => ⟨F.plainAttrs_str, F.slot_str_split, F.type_str_split, mt_split⟩
  | .join => ⟨F.plainAttrs_str, F.slot_str_join, F.type_str_join, mt_join⟩
  | .isalnum => ⟨F.plainAttrs_str, F.slot_str_isalnum, F.type_str_isalnum, mt_isalnum⟩
  | .upper => ⟨F.plainAttrs_str, F.slot_str_upper, F.type_str_upper, mt_upper⟩
  | .lower => ⟨F.plainAttrs_str, F.slot_str_lower, F.type_str_lower, mt_lower⟩
section
variable {K : PySem.W.Frag} {H H' : Hp} {S : Sto} {Q : VK} {x y : D} {v u : V}
theorem mtTy_r {m : Mt} (q : mtTy m x S) (rx : Rep K H x v) (h : HR K H S) : tyV K m.ty v H := by
  cases m <;> first
    | (cases x with
        | loc a =>
          obtain ⟨ys, e⟩ := q
          cases (show _ = _ from rx)
          obtain ⟨vs, h1, _⟩ := sq_lst h e
          exact .inl ⟨rfl, vs, h1⟩
        | _ => exact q.elim)
    | (cases x with
        | str z => cases (show _ = _ from rx); rfl
        | _ => exact q.elim)
theorem strs_of : ∀ {zs : List Str} {vs : List V}, Reps K H (zs.map D.str) vs → vs = zs.map V.str
  | [], _, h => h
  | n :: ns, _, ⟨v, r, e, q, t⟩ => by rw [e, show v = V.str n from q, strs_of t] <;> rfl
theorem mtO_r {m : Mt} {xs : List D} {vs : List V} {Q0 : DK} (q : mtO m x xs S Q0) (rx : Rep K H x v) (rs : Reps K H xs vs) (h : HR K H S) (c : Ct K H Q0 Q) : rMt K m v vs H Q := by
  unfold mtO at q
  split at q
  · cases (show _ = _ from rx)
    obtain ⟨w, rfl, r⟩ := reps1 rs
    obtain ⟨ys, e, hz, q⟩ := q
    obtain ⟨us, h1, r1⟩ := h.lst e
    exact ⟨_, us, w, rfl, rfl, h1, by rw [← r1.length]; exact hz, c.setL h h1 (r1.append (.one r)) q rfl⟩
  · cases (show _ = _ from rx)
    obtain ⟨w, rfl, r⟩ := reps1 rs
    cases (show _ = _ from r)
    obtain ⟨ys, zs, e, e2, hz, q⟩ := q
    obtain ⟨us, h1, r1⟩ := h.lst e
    obtain ⟨ws, h2, r2⟩ := h.lst e2
    exact ⟨_, _, us, ws, rfl, rfl, h1, h2, by rw [← r1.length, ← r2.length]; exact hz, c.setL h h1 (r1.append r2) q rfl⟩
  · cases (show _ = _ from rx)
    cases (show _ = _ from rs)
    obtain ⟨ys, d, e, e2, q⟩ := q
    obtain ⟨us, h1, r1⟩ := h.lst e
    obtain ⟨w, e3, r3⟩ := r1.get e2
    exact .inl ⟨_, us, w, rfl, rfl, h1, by rw [← r1.length]; exact e3, c.setL h h1 r1.dropLast q r3⟩
  · cases (show _ = _ from rx)
    obtain ⟨w, rfl, r⟩ := reps1 rs
    cases (show _ = _ from r)
    obtain ⟨ys, k, d, e, h3, h4, hk, e2, q⟩ := q
    obtain ⟨us, h1, r1⟩ := h.lst e
    obtain ⟨w, e3, r3⟩ := r1.get e2
    exact .inr ⟨_, us, _, k, w, rfl, rfl, h1, h3, h4, by rw [← r1.length]; exact hk, e3, c.setL h h1 (r1.eraseIdx k) q r3⟩
  · cases (show _ = _ from rx)
    cases (show _ = _ from rs)
    obtain ⟨ys, e, q⟩ := q
    obtain ⟨us, h1, r1⟩ := h.lst e
    exact ⟨_, us, rfl, rfl, h1, c.setL h h1 r1.reverse q rfl⟩
  · cases (show _ = _ from rx)
    obtain ⟨w, rfl, r⟩ := reps1 rs
    obtain ⟨a, ds, vs, rfl, sq, r1, zs, rfl, hz, q⟩ := itemsO_r q r h
    have e := strs_of r1
    subst e
    exact ⟨_, a, zs, rfl, rfl, sq, hz, c.str h q⟩
  · cases (show _ = _ from rx)
    cases (show _ = _ from rs)
    exact ⟨_, rfl, rfl, trivial, c.bl h q⟩
  · cases (show _ = _ from rx)
    cases (show _ = _ from rs)
    exact ⟨_, rfl, rfl, q.1, c.str h q.2⟩
  · cases (show _ = _ from rx)
    cases (show _ = _ from rs)
    exact ⟨_, rfl, rfl, q.1, c.str h q.2⟩
  · cases (show _ = _ from rx)
    obtain ⟨w, rfl, r⟩ := reps1 rs
    cases (show _ = _ from r)
    exact ⟨_, _, rfl, rfl, q.1, q.2.1, fun p hp => c.newL h hp strs_rep (q.2.2 p)⟩
  · exact q.elim
theorem tyS_r {t : String} (e : tyS x S = some t) (rx : Rep K H x v) (h : HR K H S) : TyX K H v (.type t) := by
  have tupX : ∀ {a : Addr} {vs : List V}, SqT K H a vs → TyX K H (.ref a) (.type "tuple") := by
    intro a vs sq
    rcases sq with (e | ⟨o, e⟩) | ⟨o, its, n, e, c, _⟩
    · exact .base (.tup e)
    · exact .fTuple e
    · exact .kTuple e c
  cases x with
  | non => cases (show _ = _ from rx); cases e; exact .base .non
  | bl b => cases (show _ = _ from rx); cases e; exact .base (.bl b)
  | int b => cases (show _ = _ from rx); cases e; exact .base (.int b)
  | str b => cases (show _ = _ from rx); cases e; exact .base (.str b)
  | tup ds =>
    obtain ⟨a, vs, rfl, sq, _⟩ := rx
    cases e
    exact tupX sq
  | rl ds =>
    obtain ⟨a, vs, rfl, sq, _⟩ := rx
    cases e
    rcases sq with ⟨o, e⟩ | ⟨o, its, n, e, c, _⟩
    · exact .base (.frz e)
    · exact .kList e c
  | loc a =>
    cases (show _ = _ from rx)
    unfold tyS at e
    dsimp only at e
    split at e
    · rename_i q
      cases e
      obtain ⟨vs, h1, _⟩ := h.lst q
      exact .base (.lst h1)
    · rename_i q
      cases e
      obtain ⟨gs, h1, _⟩ := h a _ q
      exact .base (.dK h1)
    · cases e
  | ty n => cases e
theorem isiO_r {T : String} {P : Bool → Prop} (q : isiO x T S P) (rx : Rep K H x v) (h : HR K H S) (c : ∀ b, P b → Q (.bl b) H) : rIsi K [v, .ty T] H Q := by
  unfold isiO at q
  cases e : tyS x S with
  | none => rw [e] at q; exact q.elim
  | some t =>
    rw [e] at q
    obtain ⟨b, hb, q⟩ := q
    exact ⟨v, .ty T, .type t, .type T, b, rfl, .ty T, tyS_r e rx h, kit_ty hb, c b q⟩
end
end Z
namespace Z
open PySem PySem.Spec PyProof.Rows L2
def nStar : Expr → Bool
  | .Starred _ _ => false
  | _ => true
def nSup : Expr → Bool
  | .Call (.Name _ _) [] [] _ => false
  | _ => true
def nSet : Expr → Bool
  | .Set _ _ _ => false
  | _ => true
def nSlc : Expr → Bool
  | .Slice _ _ _ _ => false
  | _ => true
def nComp : Expr → Bool
  | .ListComp _ _ _ _ => false
  | .SetComp _ _ _ _ => false
  | .DictComp _ _ _ _ _ => false
  | _ => true
def plT : Expr → Bool
  | .UnaryOp _ _ _ => false
  | .BoolOp _ _ _ => false
  | .IfExp _ _ _ _ => false
  | .Compare _ _ _ _ => false
  | _ => true
section
variable {env : Env} {e : Expr} {es : List Expr}
theorem star1 (h : nStar e = true) : starEach (e :: es) env = (false, eval e env) :: starEach es env := by
  cases e <;> first | rfl | cases h
theorem stars : ∀ {es : List Expr}, es.all nStar = true → ∀ pos : Pos, (backTo pos (starEach es env)).any (·.1) = false
  | [], _, _ => rfl
  | e :: es, h, pos => by
    simp only [List.all_cons, Bool.and_eq_true] at h
    rw [star1 h.1]
    show (false || (backTo pos (starEach es env)).any (·.1)) = false
    rw [stars h.2 pos]
    rfl
theorem starsAll : ∀ {es : List Expr}, es.all nStar = true → ∀ pos : Pos, (backTo pos (starEach es env)).all (fun x => !x.1) = true
  | [], _, _ => rfl
  | e :: es, h, pos => by
    simp only [List.all_cons, Bool.and_eq_true] at h
    rw [star1 h.1]
    show (!false && (backTo pos (starEach es env)).all (fun x => !x.1)) = true
    rw [starsAll h.2 pos]
    rfl
theorem nosup (h : nSup e = true) (f : Str) : attributeBase e f env (eval e env) = eval e env := by
  unfold attributeBase
  split
  · cases h
  · rfl
theorem nofold (h : nSet e = true) (x : Value) : foldedSetIterable e env x = pure x := by
  cases e <;> first | rfl | cases h
theorem nomarks (h : nSet e = true) (op : CmpOp) : behindInMarks op e = false := by
  cases e <;> first | rfl | cases h
theorem plix (h : nSlc e = true) : PlainIx e := fun o i => by
  cases e <;> first | rfl | cases h
theorem noswap (h : nComp e = true) (t : Option Expr) (l : Nat) : swapsWith e t l env = pure false := by
  cases e <;> first | rfl | cases h
theorem plTrue (h : plT e = true) (whole : Sem Value) : isTrue e env whole = (do let v ← whole; standAt e.pos; holding [v] (truthy v)) := by
  cases e <;> first | rfl | cases h
end
structure Tb where
  fs : List (Nat × Str × Nat)
  cons : List (Nat × Str)
  cls : List (Nat × Str × Nat)
def dbgB (x : Str) : Bool := !(x == ("__debug__" : Str))
def visB (sc : Scope) (x : Str) : Bool := match sc.names.lookup x with
  | some .local => true
  | some .cell => true
  | some .free => true
  | _ => false
def locB (sc : Scope) (x : Str) : Bool := match sc.names.lookup x with
  | some .local => true
  | _ => false
def glB (sc : Scope) (x : Str) : Bool := match sc.names.lookup x with
  | some .globalImplicit => dbgB x
  | _ => false
def okC : CK → Const → Bool
  | .non, .none => true
  | .bl a, .bool b => a == b
  | .int i, .int j => decide (i = j)
  | .str x, .str y => decide (x = y)
  | _, _ => false
def okB2 : B2 → Operator → Bool
  | .add, .Add => true | .sub, .Sub => true | .mul, .Mult => true | .fdiv, .FloorDiv => true | .mod, .Mod => true | .pow, .Pow => true
  | _, _ => false
def okCm : Cm → CmpOp → Bool
  | .eq, .Eq => true | .ne, .NotEq => true | .lt, .Lt => true | .le, .LtE => true | .gt, .Gt => true | .ge, .GtE => true | .inn, .In => true | .nin, .NotIn => true | .isN, .Is => true | .notN, .IsNot => true
  | _, _ => false
def tyNm (T : String) : Str := Str.ofString T
/-- the built-in names that stand free -/
def blt : List Str := ["len", "int", "str", "list", "tuple", "sum", "all", "any", "max", "min", "abs", "isinstance", "range", "bool", "dict", "enumerate", "zip", "set", "sorted", "reversed"]
/-- the classes that isinstance is asked of -/
def isiT : List (Str × String) := [("int", "int"), ("str", "str"), ("bool", "bool"), ("tuple", "tuple"), ("list", "list"), ("dict", "dict")]
def nargs : IEs → Nat
  | .nil => 0
  | .cons _ es => nargs es + 1
section
variable (T : Tb) (N : List Str)
mutual
def okE (sc : Scope) : IE → Expr → Bool
  | .c k, e => match e with
    | .Constant c _ _ => okC k c
    | _ => false
  | .v i, e => match e with
    | .Name x _ => decide (N[i]? = some x) && visB sc x && dbgB x && !(x == ("__classdict__" : Str))
    | _ => false
  | .g j, e => match e with
    | .Name x _ => decide (T.cons.lookup j = some x) && glB sc x
    | _ => false
  | .b2 o a b, e => match e with
    | .BinOp x op y _ => okB2 o op && okE sc a x && okE sc b y
    | _ => false
  | .neg a, e => match e with
    | .UnaryOp .USub x _ => okE sc a x
    | _ => false
  | .cmp o a b, e => match e with
    | .Compare x [op] [y] _ => okCm o op && nSet y && okE sc a x && okE sc b y
    | _ => false
  | .chn o1 o2 a b c, e => match e with
    | .Compare x [p1, p2] [y, z] _ => okCm o1 p1 && okCm o2 p2 && nSet y && nSet z && okE sc a x && okE sc b y && okE sc c z
    | _ => false
  | .and a b, e => match e with
    | .BoolOp .And (x :: y :: r) p => okE sc a x && (match r with
      | [] => okE sc b y
      | z :: r => okE sc b (.BoolOp .And (y :: z :: r) p))
    | _ => false
  | .or a b, e => match e with
    | .BoolOp .Or (x :: y :: r) p => okE sc a x && (match r with
      | [] => okE sc b y
      | z :: r => okE sc b (.BoolOp .Or (y :: z :: r) p))
    | _ => false
  | .not a, e => match e with
    | .UnaryOp .Not x _ => okE sc a x
    | _ => false
  | .ite t a b, e => match e with
    | .IfExp x y z _ => okT sc t x && okE sc a y && okE sc b z
    | _ => false
  | .tup es, e => match e with
    | .Tuple xs _ _ => okA sc es xs
    | _ => false
  | .lst es, e => match e with
    | .List xs _ => okA sc es xs
    | _ => false
  | .ix a i, e => match e with
    | .Subscript x y _ => nSlc y && okE sc a x && okE sc i y
    | _ => false
  | .sl a lo hi, e => match e with
    | .Subscript x (.Slice l h none _) _ => okE sc a x && okO sc lo l && okO sc hi h
    | _ => false
  | .call f es, e => match e with
    | .Call (.Name x _) xs [] _ => (match T.fs.lookup f with
      | some (n, np) => decide (n = x) && !(x == "") && glB sc x && okA sc es xs
      | none => false)
    | _ => false
  | .new k es, e => match e with
    | .Call (.Name x _) xs [] _ => (match T.cls.lookup k with
      | some (n, _) => decide (n = x) && glB sc x && okA sc es xs
      | none => false)
    | _ => false
  | .meth m o es, e => match e with
    | .Call (.Attribute x n ap) xs [] p => decide (n = m) && nSup x && (ap.endLine == p.line) && decide (xs.length + 0 + 0 < 30) && okE sc o x && okA sc es xs
    | _ => false
  | .bi b es, e => match e with
    | .Call (.Name x _) (y :: ys) [] _ => decide (x = b.nm) && glB sc x && decide (x ≠ "__name__") && decide (x ∈ blt) && okA sc es (y :: ys)
    | _ => false
  | .bm m o es, e => match e with
    | .Call (.Attribute x n ap) [] [] p => decide (n = m.nm) && nSup x && (ap.endLine == p.line) && okE sc o x && (match es with
      | .nil => true
      | _ => false)
    | .Call (.Attribute x n ap) (y :: ys) [] p => decide (n = m.nm) && nSup x && (ap.endLine == p.line) && decide ((y :: ys).length + 0 + 0 < 30) && okE sc o x && okA sc es (y :: ys)
    | _ => false
  | .isi a t, e => match e with
    | .Call (.Name x _) [y, .Name z _] [] _ => decide (x = "isinstance") && glB sc x && glB sc z && nStar y && decide ((z, t) ∈ isiT) && okE sc a y
    | _ => false
  | .fld o f, e => match e with
    | .Attribute x n _ => decide (n = f) && nSup x && okE sc o x
    | _ => false
  | .lc w tg cs x own, e => match e with
    | .ListComp el [⟨t, it, ifs, 0⟩] s2 _ => blkC N sc s2 own && okW sc w it && okTg own (relS s2 sc) tg t && okCs (relS s2 sc) cs ifs && okE (relS s2 sc) x el
    | _ => false
def okT (sc : Scope) : IE → Expr → Bool
  | .and a b, e => match e with
    | .BoolOp .And (x :: y :: r) p => okT sc a x && (match r with
      | [] => okT sc b y
      | z :: r => okT sc b (.BoolOp .And (y :: z :: r) p))
    | _ => false
  | .or a b, e => match e with
    | .BoolOp .Or (x :: y :: r) p => okT sc a x && (match r with
      | [] => okT sc b y
      | z :: r => okT sc b (.BoolOp .Or (y :: z :: r) p))
    | _ => false
  | .not a, e => match e with
    | .UnaryOp .Not x _ => okT sc a x
    | _ => false
  | .cmp o a b, e => match e with
    | .Compare x [op] [y] _ => okCm o op && nSet y && okE sc a x && okE sc b y
    | _ => false
  | .chn o1 o2 a b c, e => match e with
    | .Compare x [p1, p2] [y, z] _ => okCm o1 p1 && okCm o2 p2 && nSet y && nSet z && okE sc a x && okE sc b y && okE sc c z
    | _ => false
  | .call f es, e => match e with
    | .Call (.Name x _) xs [] _ => (match T.fs.lookup f with
      | some (n, np) => decide (n = x) && !(x == "") && glB sc x && okA sc es xs
      | none => false)
    | _ => false
  | .meth m o es, e => match e with
    | .Call (.Attribute x n ap) xs [] p => decide (n = m) && nSup x && (ap.endLine == p.line) && decide (xs.length + 0 + 0 < 30) && okE sc o x && okA sc es xs
    | _ => false
  | .fld o f, e => match e with
    | .Attribute x n _ => decide (n = f) && nSup x && okE sc o x
    | _ => false
  | .bi b es, e => match e with
    | .Call (.Name x _) (y :: ys) [] _ => decide (x = b.nm) && glB sc x && decide (x ≠ "__name__") && decide (x ∈ blt) && okA sc es (y :: ys)
    | _ => false
  | .isi a t, e => match e with
    | .Call (.Name x _) [y, .Name z _] [] _ => decide (x = "isinstance") && glB sc x && glB sc z && nStar y && decide ((z, t) ∈ isiT) && okE sc a y
    | _ => false
  | .ix a i, e => match e with
    | .Subscript x y _ => nSlc y && okE sc a x && okE sc i y
    | _ => false
  | .v i, e => match e with
    | .Name x _ => decide (N[i]? = some x) && visB sc x && dbgB x && !(x == ("__classdict__" : Str))
    | _ => false
  | .bm m o es, e => match e with
    | .Call (.Attribute x n ap) [] [] p => decide (n = m.nm) && nSup x && (ap.endLine == p.line) && okE sc o x && (match es with
      | .nil => true
      | _ => false)
    | .Call (.Attribute x n ap) (y :: ys) [] p => decide (n = m.nm) && nSup x && (ap.endLine == p.line) && decide ((y :: ys).length + 0 + 0 < 30) && okE sc o x && okA sc es (y :: ys)
    | _ => false
  | .c k, e => match e with
    | .Constant c _ _ => okC k c
    | _ => false
  | _, _ => false
def okA (sc : Scope) : IEs → List Expr → Bool
  | .nil, es => match es with
    | [] => true
    | _ => false
  | .cons i is, es => match es with
    | e :: es => nStar e && okE sc i e && okA sc is es
    | _ => false
def okO (sc : Scope) : IO → Option Expr → Bool
  | .none, e => match e with
    | none => true
    | _ => false
  | .some i, e => match e with
    | some e => okE sc i e
    | none => false
def okW (sc : Scope) : IW → Expr → Bool
  | .seq i, e => nSet e && okE sc i e
  | .rng1 a, e => match e with
    | .Call (.Name x _) [y] [] _ => decide (x = "range") && glB sc x && nStar y && okE sc a y
    | _ => false
  | .rng2 a b, e => match e with
    | .Call (.Name x _) [y, z] [] _ => decide (x = "range") && glB sc x && nStar y && nStar z && okE sc a y && okE sc b z
    | _ => false
def okCs (sc : Scope) : IEs → List Expr → Bool
  | .nil, es => match es with
    | [] => true
    | _ => false
  | .cons i is, es => match is, es with
    | .nil, [e] => okT sc i e
    | _, _ => false
def okTg (own : List (Str × Nat)) (sc : Scope) : IT → Expr → Bool
  | .n i, e => match e with
    | .Name x _ => decide (N[i]? = some x) && locB sc x && decide (i ∈ own.map (·.2))
    | _ => false
  | .t is, e => match e with
    | .Tuple es _ _ => okTgs own sc is es
    | _ => false
def okTgs (own : List (Str × Nat)) (sc : Scope) : List Nat → List Expr → Bool
  | [], es => match es with
    | [] => true
    | _ => false
  | i :: is, es => match es with
    | .Name x _ :: es => decide (N[i]? = some x) && locB sc x && decide (i ∈ own.map (·.2)) && okTgs own sc is es
    | _ => false
end
end
end Z
namespace Z
open PySem PySem.Spec PyProof.Rows L2
/-- the fields of an exception at d -/
def XR (K : PySem.W.Frag) (H : Hp) (d : Option Addr) (fs : List (Str × D)) : Prop := match d with
  | none => fs = []
  | some a => ∃ gs, H a = some (.xd gs) ∧ FR K H fs gs
def LW (K : PySem.W.Frag) (cad : Nat → Addr) (E : DXS) : WX := fun cls d σ H => ∃ C fs δ S, cls = .ref (cad C) ∧ E C fs δ S ∧ SR K H δ σ ∧ HR K H S ∧ XR K H d fs
/-- a promise by plain data -/
def LSp (K : PySem.W.Frag) (cad : Nat → Addr) (w : List D → Sto → DK → DX → Prop) : Sp := fun vs H Q E => ∃ ds S Q0 E0, Reps K H ds vs ∧ HR K H S ∧ w ds S Q0 E0 ∧ Ct K H Q0 Q ∧
  ∀ C fs S', E0 C fs S' → ∀ d H', Lt K H H' → HR K H' S' → XR K H' d fs → E (.ref (cad C)) d H'
/-- a def of the text by its number -/
structure FnG (X : Cx) (cad : Nat → Addr) (lev : Nat) (np : Nat) (w : List D → Sto → DK → DX → Prop) (a : Addr) (fd : FuncData) (ps : List Str) : Prop where
  kp : PySem.W.keepIn X.K (.ref a) = true
  b : Binds X.K fd ps []
  ok : FnOk X.prog X.w X.K X.mg X.base (L2.CX X.prog X.w) lev a fd ps (LSp X.K cad w)
structure GX (T : Tb) (Γ : Gm) (lev : Nat) (N : List Str) (X : Cx) (sc : Scope) (E : DXS) : Prop where
  hN : X.N = N
  nd : N.Nodup
  hsc : X.env.scope = sc
  hr : Room (lev + 1) X.A
  calm : X.calm = true
  tk : Takes X (LW X.K Γ.cls E)
  con : ∀ j x, T.cons.lookup j = some x → ∃ u v, X.mg x = some u ∧ RelV v u ∧ ∀ H, Rep X.K H (Γ.con j) v
  bl : ∀ x ∈ blt, X.mg x = none
  fn : ∀ (f : Nat) (x : Str) (np : Nat), T.fs.lookup f = some (x, np) → (x ≠ "" → X.mg x = some (.ref (Γ.adr f))) ∧ ∃ fd ps, FnG X Γ.cls lev np (Γ.call f) (Γ.adr f) fd ps
  cl : ∀ (k : Nat) (x : Str) (f : Nat), T.cls.lookup k = some (x, f) → X.mg x = some (.ref (Γ.cls k)) ∧ Cls X.K (Γ.cls k) ∧ Mk X.K (Γ.cls k) (Γ.adr f) ∧ Γ.ini k = f ∧ ∃ y np, T.fs.lookup f = some (y, np)
  mt : ∀ k m f, Γ.mth k m = some f → Cls X.K (Γ.cls k) ∧ Meth X.K (Γ.cls k) m (Γ.adr f) ∧ ∃ y np, T.fs.lookup f = some (y, np)
  fk : ∀ k f, Γ.fok k f = true → Cls X.K (Γ.cls k) ∧ NoAttr X.K (Γ.cls k) f
/-- the exception's wish at a state of the slots -/
abbrev Ex (E : DXS) (δ : Env') : DX := fun C fs S => E C fs δ S
section
variable {T : Tb} {Γ : Gm} {lev : Nat} {N : List Str} {X : Cx} {sc : Scope} {E : DXS}
theorem GX.gl (G : GX T Γ lev N X sc E) {x : Str} (h : glB sc x = true) : Gl X x ∧ (x == ("__debug__" : Str)) = false := by
  unfold glB at h
  split at h
  · rename_i q
    refine ⟨?_, ?_⟩
    · show X.env.scope.names.lookup x = _
      rw [G.hsc]; exact q
    · unfold dbgB at h
      simpa using h
  · cases h
theorem GX.vis (G : GX T Γ lev N X sc E) {x : Str} (h : visB sc x = true) : Vis X.env.scope x := by
  rw [G.hsc]
  unfold visB at h
  split at h <;> first | exact .inl (by assumption) | exact .inr (.inl (by assumption)) | exact .inr (.inr (by assumption)) | cases h
theorem GX.loc (G : GX T Γ lev N X sc E) {x : Str} (h : locB sc x = true) : X.env.scope.names.lookup x = some .local := by
  rw [G.hsc]
  unfold locB at h
  split at h <;> first | assumption | cases h
theorem GX.units (G : GX T Γ lev N X sc E) : X.A.units + 64 < cLine := G.hr.units
theorem GX.hr0 (G : GX T Γ lev N X sc E) : Room lev X.A := G.hr.mono (Nat.le_succ lev)
theorem takes_none {X : Cx} (h : ∀ u s, ¬ X.xe u s) {K : PySem.W.Frag} {cad : Nat → Addr} : Takes X (LW K cad fun _ _ _ _ => False) := fun u s' ⟨_, _, _, _, _, _, _, _, _, _, _, _, _, _, _, _, w⟩ => by
  obtain ⟨_, _, _, _, _, q, _⟩ := w
  exact q.elim
/-- within a comprehension's block -/
theorem GX.blk (G : GX T Γ lev N X sc E) (s : Shared) (H : Hp) (scope : Scope) (C : Addr) (cl : List (Str × Addr)) (fp : List Addr) :
    GX T Γ lev N (X.blk s H scope (compEnvC scope cl C X.env) fp) (relS scope sc) (fun _ _ _ _ => False) where
  hN := G.hN
  nd := G.nd
  hsc := by rw [← G.hsc] <;> rfl
  hr := G.hr
  calm := G.calm
  tk := takes_none fun _ _ z => z
  con := G.con
  bl := G.bl
  fn := fun f x np h => by
    obtain ⟨h1, fd, ps, h2, h3, h4, h5⟩ := G.fn f x np h
    exact ⟨h1, fd, ps, h2, h3, h4, h5⟩
  cl := G.cl
  mt := G.mt
  fk := G.fk
end
/-- the wish of a test -/
abbrev asB (Q : Bool → Sto → Prop) : DK := fun x S1 => match x with
  | .bl k => Q k S1
  | _ => False
section
variable {K : PySem.W.Frag} {H H' : Hp} {S : Sto} {Q0 : DK} {Q : VK} {σ : L2.St} {δ : Env'}
/-- a part, then what is wanted of its value -/
theorem LE.mk {w : Env' → Sto → DK → Prop} {P : DK} (s : SR K H δ σ) (h : HR K H S) (q : w δ S P) (k : ∀ d S', P d S' → ∀ v H', Lt K H H' → Rep K H' d v → HR K H' S' → Q v H') : LE K w σ H Q := ⟨δ, S, P, s, h, q, k⟩
theorem LA.mk {w : Env' → Sto → (List D → Sto → Prop) → Prop} {P : List D → Sto → Prop} {Q : List V → Hp → Prop} (s : SR K H δ σ) (h : HR K H S) (q : w δ S P)
    (k : ∀ d S', P d S' → ∀ v H', Lt K H H' → Reps K H' d v → HR K H' S' → Q v H') : LA K w σ H Q := ⟨δ, S, P, s, h, q, k⟩
theorem LE.tst {w : Env' → Sto → DK → Prop} {Q : Bool → Hp → Prop} (h : LT K (fun δ S Q => w δ S (asB Q)) σ H Q) : tTest (LE K w) σ H Q := by
  obtain ⟨δ, S, Q0, s, hh, q, k⟩ := h
  refine LE.mk s hh q fun d S' q v H' l r h' => ?_
  cases d with
  | bl b =>
    cases (show _ = _ from r)
    exact ⟨b, rfl, k b S' q H' l h'⟩
  | _ => exact q.elim
/-- two parts -/
theorem LE.two {wa wb : Env' → Sto → DK → Prop} {R : D → D → Sto → Prop} {r : V → V → Hp → Prop} (s : SR K H δ σ) (h : HR K H S) (q : wa δ S fun x S1 => wb δ S1 fun y S2 => R x y S2)
    (k : ∀ x y S2, R x y S2 → ∀ v u H2, Lt K H H2 → Rep K H2 x v → Rep K H2 y u → HR K H2 S2 → r v u H2) : LE K wa σ H fun v H1 => LE K wb σ H1 fun u H2 => r v u H2 := by
  refine LE.mk s h q fun x S1 q1 v H1 l1 r1 h1 => LE.mk (s.mono l1) h1 q1 fun y S2 q2 u H2 l2 r2 h2 => ?_
  exact k x y S2 q2 v u H2 (l1.trans l2) (r1.mono l2) r2 h2
theorem LE.op2 {wa wb : Env' → Sto → DK → Prop} {o : B2} (h : LE K (fun δ S Q => wa δ S fun x S1 => wb δ S1 fun y S2 => bop o x y S2 Q) σ H Q) : tOp (rB K o) (LE K wa) (LE K wb) σ H Q := by
  obtain ⟨δ, S, Q0, s, hh, q, k⟩ := h
  exact LE.two s hh q fun x y S2 q2 v u H2 l r1 r2 h2 => bop_r q2 r1 r2 h2 (Ct.mono k l)
theorem LE.cm2 {wa wb : Env' → Sto → DK → Prop} {o : Cm} (h : LE K (fun δ S Q => wa δ S fun x S1 => wb δ S1 fun y S2 => cop o x y S2 fun k => Q (.bl k) S2) σ H Q) : tOp (rC K o) (LE K wa) (LE K wb) σ H Q := by
  obtain ⟨δ, S, Q0, s, hh, q, k⟩ := h
  exact LE.two s hh q fun x y S2 q2 v u H2 l r1 r2 h2 => cop_r q2 r1 r2 h2 fun b qb => (Ct.mono k l).bl h2 qb
theorem LE.cmT {wa wb : Env' → Sto → DK → Prop} {o : Cm} {Q : Bool → Hp → Prop} (h : LT K (fun δ S Q => wa δ S fun x S1 => wb δ S1 fun y S2 => cop o x y S2 fun k => Q k S2) σ H Q) : tTest (tOp (rC K o) (LE K wa) (LE K wb)) σ H Q := by
  obtain ⟨δ, S, Q0, s, hh, q, k⟩ := h
  exact LE.two s hh q fun x y S2 q2 v u H2 l r1 r2 h2 => cop_r q2 r1 r2 h2 fun b qb => ⟨b, rfl, k b S2 qb H2 l h2⟩
theorem LE.ix2 {wa wb : Env' → Sto → DK → Prop} (h : LE K (fun δ S Q => wa δ S fun x S1 => wb δ S1 fun y S2 => ixO x y S2 fun d => Q d S2) σ H Q) : tOp (rIx K) (LE K wa) (LE K wb) σ H Q := by
  obtain ⟨δ, S, Q0, s, hh, q, k⟩ := h
  exact LE.two s hh q fun x y S2 q2 v u H2 l r1 r2 h2 => ixO_r q2 r1 r2 h2 fun d w qd rd => (Ct.mono k l).same qd rd h2
theorem okB2_op {o : B2} {p : Operator} (h : okB2 o p = true) : p = o.op := by
  cases o <;> cases p <;> first | rfl | cases h
theorem okCm_op {o : Cm} {p : CmpOp} (h : okCm o p = true) : p = o.op := by
  cases o <;> cases p <;> first | rfl | cases h
theorem chn_true {wa wb wc : Env' → Sto → DK → Prop} {o1 o2 : Cm} (h : LE K (fun δ S Q => wa δ S fun x S1 => wb δ S1 fun y S2 => cop o1 x y S2 fun k => match k with
    | true => wc δ S2 fun z S3 => cop o2 y z S3 fun k => Q (.bl k) S3
    | false => Q (.bl false) S2) σ H Q) : tChain (rC K o1) (rC K o2) (LE K wa) (LE K wb) (LE K wc) σ H Q := by
  obtain ⟨δ, S, Q0, s, hh, q, k⟩ := h
  refine LE.two s hh q fun x y S2 q2 v u H2 l r1 r2 h2 => cop_r q2 r1 r2 h2 fun b qb => ⟨b, rfl, ?_⟩
  cases b with
  | true =>
    rw [if_pos rfl]
    exact LE.mk (s.mono l) h2 qb fun z S3 q3 w H3 l3 r3 h3 => cop_r q3 (r2.mono l3) r3 h3 fun b qb => (Ct.mono k (l.trans l3)).bl h3 qb
  | false =>
    rw [if_neg Bool.false_ne_true]
    exact (Ct.mono k l).bl h2 qb
end
theorem wipe_ofD {K : PySem.W.Frag} {H : Hp} {δ : Env'} {σ : L2.St} (s : SR K H δ σ) : ∀ vs : List Nat, SR K H (wipeD δ vs) (wipe σ vs)
  | [] => s
  | v :: vs => by unfold wipeD wipe; exact (wipe_ofD s vs).setN v
theorem wipe_set {σ : L2.St} {i : Nat} {v : V} : ∀ {vs : List Nat}, i ∈ vs → wipe (σ.set i (some v)) vs = wipe σ vs
  | [], h => by cases h
  | w :: vs, h => by
    unfold wipe
    by_cases hi : i ∈ vs
    · rw [wipe_set hi]
    · have e : i = w := by
        rcases List.mem_cons.mp h with e | e
        · exact e
        · exact absurd e hi
      subst e
      have aux : ∀ (ws : List Nat) (τ : L2.St), (wipe (τ.set i (some v)) ws).set i none = (wipe τ ws).set i none := by
        intro ws
        induction ws with
        | nil => intro τ; unfold wipe; rw [List.set_set]
        | cons x ws ih =>
          intro τ
          unfold wipe
          by_cases hx : x = i
          · subst hx
            rw [List.set_set, List.set_set, ih τ]
          · rw [List.set_comm _ _ hx, ih τ, List.set_comm _ _ (Ne.symm hx)]
      exact aux vs σ
theorem wipe_wipe {σ : L2.St} : ∀ vs : List Nat, wipe (wipe σ vs) vs = wipe σ vs := by
  intro vs
  have set_wipe : ∀ (ws : List Nat) (τ : L2.St) (i : Nat), wipe (τ.set i none) ws = (wipe τ ws).set i none := by
    intro ws
    induction ws with
    | nil => intro τ i; rfl
    | cons x ws ih =>
      intro τ i
      unfold wipe
      rw [ih τ i]
      by_cases hx : i = x
      · subst hx; rfl
      · rw [List.set_comm _ _ hx]
  induction vs with
  | nil => rfl
  | cons x ws ih =>
    show (wipe ((wipe σ ws).set x none) ws).set x none = (wipe σ ws).set x none
    rw [set_wipe, List.set_set, ih]
end Z
namespace Z
open PySem PySem.Spec PyProof.Rows L2
theorem a2 {a b : Bool} (h : (a && b) = true) : a = true ∧ b = true := Bool.and_eq_true_iff.mp h
/-- an instance is made and its __init__ runs; an exception passes at the slots -/
theorem run_makeG {X : Cx} {CX : CXT} {k : Nat} {C f : Addr} {fd : FuncData} {ps : List Str} {sp : Sp} {E : XK} {pins : List (Addr × Obj)} {σ : L2.St} {H : Hp} {s : Shared} {Q : VK} {us : List Value} {vs : List V} (M : Mk X.K C f)
    (F : FnOk X.prog X.w X.K X.mg X.base CX k f fd ps sp) (hr : Room (k + 1) X.A) (hb : Binds X.K fd ps []) (hx : PassesAt CX X σ E) (I : Inv X pins σ H s) (r : Vals vs us)
    (h : ∀ x dx, H x = none → H dx = none → dx ≠ x → sp (.ref x :: vs) (upd (upd H dx (.own x)) x (.ins C dx [])) (fun v H2 => v = .non ∧ Q (.ref x) H2) E) : wpAny (model X.prog X.w) X.A (call (.ref C) us) (EP X pins σ Q) X.xe s := by
  obtain ⟨x, hxe⟩ : ∃ x, x = s.heap.objs.size + 1 := ⟨_, rfl⟩
  have hq := h x s.heap.objs.size (I.hok.fresh (by rw [hxe]; exact Nat.le_succ _)) (I.hok.fresh (Nat.le_refl _)) (by rw [hxe]; exact Nat.ne_of_lt (Nat.lt_succ_self _))
  subst hxe
  have J := Inv.made (C := C) I
  have rr : Vals (V.ref (s.heap.objs.size + 1) :: vs) (Value.ref (s.heap.objs.size + 1) :: us) := .cons rfl r
  have hl : (Value.ref (s.heap.objs.size + 1) :: us).length = ps.length := by
    rw [← rr.length]
    exact F.len _ _ _ _ hq
  have b := hb _ (Value.ref (s.heap.objs.size + 1) :: us) J.kIn (by rw [List.append_nil]; exact hl)
  rw [List.append_nil] at b
  have run := F.run _ X.stack _ _ ⟨Value.ref (s.heap.objs.size + 1) :: us, []⟩ _ _ _ E (hr.make C us []) (J.env0.make C us []) b rr hq
  refine wpAny_call (make_map I.kIn M.makes M.init (beq_iff_eq.mp M.fn) (codeAny_mono run fun res s' hq' => ?_))
  match res, hq' with
  | .error e, hq' => exact hx pins _ _ e s' J hq'
  | .ok (.ret u), hq' =>
    obtain ⟨v, H', I3, rv, ev, q3⟩ := J.after hq'
    subst ev
    exact ⟨rv, V.ref (s.heap.objs.size + 1), H', I3, rfl, q3⟩
section
variable {T : Tb} {Γ : Gm} {lev : Nat} {N : List Str}
/-- a call of a def of the text -/
theorem snd_call {X : Cx} {sc : Scope} {E : DXS} (G : GX T Γ lev N X sc E) {f np : Nat} {x : Str} {es : IEs} {xs : List Expr} {p pos : Pos} (hf : T.fs.lookup f = some (x, np)) (hx : x ≠ "") (hg : glB sc x = true) (hs : xs.all nStar = true) (h0 : xs = [] → es = .nil)
    (ha : PA X xs (LA X.K fun δ S Q => dA Γ (Ex E δ) es δ S Q)) : PE X (.Call (.Name x p) xs [] pos) (LE X.K fun δ S Q => dA Γ (Ex E δ) es δ S fun ds S1 => Γ.call f ds S1 Q (Ex E δ)) := by
  obtain ⟨hm, fd, ps, F⟩ := G.fn f x np hf
  have hm := hm hx
  obtain ⟨g1, g2⟩ := G.gl hg
  have key : ∀ {σ : L2.St} {H : Hp} {Q : VK}, LE X.K (fun δ S Q => dA Γ (Ex E δ) es δ S fun ds S1 => Γ.call f ds S1 Q (Ex E δ)) σ H Q → tCallS (LSp X.K Γ.cls (Γ.call f)) (WE (LW X.K Γ.cls E)) (LA X.K fun δ S Q => dA Γ (Ex E δ) es δ S Q) σ H Q := by
    rintro σ H Q ⟨δ, S, Q0, s, hh, q, k⟩
    refine LA.mk s hh q fun ds S1 q1 vs H1 l1 r1 h1 => ?_
    exact ⟨ds, S1, Q0, Ex E δ, r1, h1, q1, Ct.mono k l1, fun C fs S' e d H' l2 h2 hx => ⟨C, fs, δ, S', rfl, e, s.mono (l1.trans l2), h2, hx⟩⟩
  cases xs with
  | nil =>
    refine ⟨fun pins st σ H Q I h => ?_⟩
    refine wpAny_Call_Name_kw (ld_glob I g1 hm ?_ g2)
    obtain ⟨δ, S, Q0, s, hh, q, k⟩ := h
    rw [h0 rfl] at q
    refine PySem.W.callWith_K0 I.kIn F.kp (run_fnS (us := []) (vs := []) F.ok G.hr0 F.b (passAt G.tk σ) I .nil ?_)
    exact ⟨[], S, Q0, Ex E δ, rfl, hh, q, k, fun C fs S' e d H' l2 h2 hx => ⟨C, fs, δ, S', rfl, e, s.mono l2, h2, hx⟩⟩
  | cons y ys =>
    have h2 := a2 (show (nStar y && ys.all nStar) = true from hs)
    exact (pe_callS F.ok G.hr0 g1 hm F.kp F.b (fun σ => passAt G.tk σ) ha g2 (star1 h2.1) (stars h2.2 _)).imp fun _ _ _ h => key h
theorem mc_eq {env : Env} {m : Str} {o : Expr} {xs : List Expr} {ap pos : Pos} (h1 : nSup o = true) (h2 : xs.all nStar = true) (h3 : (ap.endLine == pos.line) = true) (h4 : xs.length + 0 + 0 < 30) :
    eval (.Call (.Attribute o m ap) xs [] pos) env = (do
      let ov ← eval o env
      standAt ap.atName
      let (f, first) ← holding [ov] (getMethod ov m (do return (← importBound o env).getD true))
      callWith pos f first (backTo pos (starEach xs env)) (backToKw pos (keywordEach [] env))) := by
  show (do
    let ov ← attributeBase o m env (eval o env)
    standAt ap.atName
    methodCall o m ap pos env ov (xs.length + 0) (backTo pos (starEach xs env)) (backToKw pos (keywordEach [] env))) = _
  rw [nosup h1]
  have few : methodCallForm (xs.length + 0) (backTo pos (starEach xs env)) (backToKw pos (keywordEach [] env)) = true := by
    unfold methodCallForm
    rw [starsAll h2]
    refine Bool.and_eq_true_iff.mpr ⟨rfl, ?_⟩
    exact decide_eq_true h4
  have mp : methodCallPos true o env ap pos = pure pos := by
    unfold methodCallPos
    rw [h3]
    rfl
  unfold methodCall
  rw [few]
  simp only [mp, calleeOf, if_true]
  first
    | rfl
    | (congr 1; funext ov; congr 1)
/-- o.m(..), o an instance of whatever class has that method -/
theorem snd_meth {X : Cx} {sc : Scope} {E : DXS} (G : GX T Γ lev N X sc E) {m : Str} {o : Expr} {es : IEs} {xs : List Expr} {wo : Env' → Sto → DK → Prop} {ap pos : Pos} (he : PE X o (LE X.K wo)) (hs : xs.all nStar = true) (h1 : nSup o = true) (h3 : (ap.endLine == pos.line) = true) (h4 : xs.length + 0 + 0 < 30)
    (h0 : xs = [] → es = .nil) (ha : PA X xs (LA X.K fun δ S Q => dA Γ (Ex E δ) es δ S Q)) :
    PE X (.Call (.Attribute o m ap) xs [] pos) (LE X.K fun δ S Q => wo δ S fun x S1 => match x with
      | .loc a => match S1 a with
        | some (.ins C dx k fs) => C = Γ.cls k ∧ match Γ.mth k m with
          | some f => fs.lookup m = none ∧ dA Γ (Ex E δ) es δ S1 fun ds S2 => Γ.call f (.loc a :: ds) S2 Q (Ex E δ)
          | none => False
        | _ => False
      | _ => False) := by
  refine ⟨fun pins st σ H Q I ⟨δ, S, Q0, s, hh, q, k_⟩ => methcall_of he I (LE.mk s hh q fun x S1 q1 v H1 l r g1 => ?_) (mc_eq h1 hs h3 h4)⟩
  split at q1
  · rename_i a
    cases (show _ = _ from r)
    split at q1
    · rename_i C dx k fs e
      obtain ⟨rfl, q1⟩ := q1
      split at q1
      · rename_i f ef
        obtain ⟨l0, q1⟩ := q1
        obtain ⟨c, hm, y, np, hf⟩ := G.mt k m f ef
        obtain ⟨_, fd, ps, F⟩ := G.fn f y np hf
        obtain ⟨gs, hH, hfr⟩ := g1 a _ e
        refine ⟨a, _, dx, gs, _, rfl, hH, c, hm, hfr.lookupN l0, fun s1 I1 => ?_⟩
        have go : ∀ (ds : List D) (S2 : Sto), Γ.call f (.loc a :: ds) S2 Q0 (Ex E δ) → ∀ vs H2, Lt X.K H1 H2 → Reps X.K H2 ds vs → HR X.K H2 S2 → LSp X.K Γ.cls (Γ.call f) (.ref a :: vs) H2 Q (WE (LW X.K Γ.cls E) σ) := fun ds S2 q2 vs H2 l2 r2 h2 =>
          ⟨.loc a :: ds, S2, Q0, Ex E δ, ⟨_, vs, rfl, rfl, r2⟩, h2, q2, Ct.mono k_ (l.trans l2), fun C fs S' e d H' l3 h3 hx => ⟨C, fs, δ, S', rfl, e, s.mono ((l.trans l2).trans l3), h3, hx⟩⟩
        cases xs with
        | nil =>
          rw [h0 rfl] at q1
          exact PySem.W.callWith_K0 (first := [.ref a]) I1.kIn hm.kp (run_fnS (us := [.ref a]) (vs := [.ref a]) F.ok G.hr0 F.b (passAt G.tk σ) I1 (.cons rfl .nil) (go [] S1 q1 [] H1 Lt.refl rfl g1))
        | cons y ys =>
          have h2 := a2 (show (nStar y && ys.all nStar) = true from hs)
          refine PySem.W.callWith_K (first := [.ref a]) (h₀ := X.base) I1.ok.mod.kin hm.kp (thn (ha.run pos pins s1 σ H1 _ I1 (LA.mk (s.mono l) g1 q1 fun ds S2 q2 vs H2 l2 r2 h2 => go ds S2 q2 vs H2 l2 r2 h2)) fun us s2 hv => ?_) (star1 h2.1) (stars h2.2 _)
          obtain ⟨vs, H2, I2, r2, q2⟩ := hv
          exact ⟨I2.kIn, run_fnS (us := .ref a :: us) (vs := .ref a :: vs) F.ok G.hr0 F.b (passAt G.tk σ) I2 (.cons rfl r2) q2⟩
      · exact q1.elim
    · exact q1.elim
  · exact q1.elim
/-- C(..), C a class of the text -/
theorem snd_new {X : Cx} {sc : Scope} {E : DXS} (G : GX T Γ lev N X sc E) {k f : Nat} {x : Str} {es : IEs} {xs : List Expr} {p pos : Pos} (hf : T.cls.lookup k = some (x, f)) (hg : glB sc x = true) (hs : xs.all nStar = true) (h0 : xs = [] → es = .nil)
    (ha : PA X xs (LA X.K fun δ S Q => dA Γ (Ex E δ) es δ S Q)) :
    PE X (.Call (.Name x p) xs [] pos) (LE X.K fun δ S Q => dA Γ (Ex E δ) es δ S fun ds S1 => ∀ x dx, S1 x = none → S1 dx = none → dx ≠ x → Γ.call (Γ.ini k) (.loc x :: ds) (put S1 x (.ins (Γ.cls k) dx k [])) (fun v S2 => v = .non ∧ Q (.loc x) S2) (Ex E δ)) := by
  obtain ⟨hm, c, M, ei, y, np, hf2⟩ := G.cl k x f hf
  obtain ⟨_, fd, ps, F⟩ := G.fn f y np hf2
  obtain ⟨g1, g2⟩ := G.gl hg
  refine ⟨fun pins st σ H Q I ⟨δ, S, Q0, s, hh, q, kk⟩ => ?_⟩
  refine wpAny_Call_Name_kw (ld_glob I g1 hm ?_ g2)
  have go : ∀ (ds : List D) (S1 : Sto), (∀ x dx, S1 x = none → S1 dx = none → dx ≠ x → Γ.call (Γ.ini k) (.loc x :: ds) (put S1 x (.ins (Γ.cls k) dx k [])) (fun v S2 => v = .non ∧ Q0 (.loc x) S2) (Ex E δ)) → ∀ vs H1, Lt X.K H H1 → Reps X.K H1 ds vs → HR X.K H1 S1 →
      ∀ x dx, H1 x = none → H1 dx = none → dx ≠ x → LSp X.K Γ.cls (Γ.call f) (.ref x :: vs) (upd (upd H1 dx (.own x)) x (.ins (Γ.cls k) dx [])) (fun v H2 => v = .non ∧ Q (.ref x) H2) (WE (LW X.K Γ.cls E) σ) := by
    intro ds S1 q1 vs H1 l r1 h1 z dx n1 n2 ne
    have lA : Lt X.K H1 (upd H1 dx (.own z)) := Lt.newO n2
    have nz : upd H1 dx (.own z) z = none := by rw [upd_ne (Ne.symm ne)]; exact n1
    have lB : Lt X.K (upd H1 dx (.own z)) (upd (upd H1 dx (.own z)) z (.ins (Γ.cls k) dx [])) := Lt.newO nz
    have q2 := q1 z dx (h1.fresh n1) (h1.fresh n2) ne
    rw [ei] at q2
    have hB := HR.putO (o := .ins (Γ.cls k) dx k []) (h1.newO (h1.fresh n2) lA) lB ⟨[], upd_same, rfl⟩
    refine ⟨.loc z :: ds, _, _, _, ⟨_, vs, rfl, rfl, r1.mono (lA.trans lB)⟩, hB, q2, fun d S' qd v H' l2 rd hd => ?_, fun C fs S' e d H' l3 h3 hx => ⟨C, fs, δ, S', rfl, e, s.mono (((l.trans lA).trans lB).trans l3), h3, hx⟩⟩
    obtain ⟨ed, qd⟩ := qd
    subst ed
    exact ⟨rd, kk _ _ qd _ _ (((l.trans lA).trans lB).trans l2) rfl hd⟩
  cases xs with
  | nil =>
    rw [h0 rfl] at q
    exact PySem.W.callWith_K0 I.kIn M.kp (run_makeG (us := []) M F.ok G.hr F.b (passAt G.tk σ) I .nil (go [] S q [] H Lt.refl rfl hh))
  | cons y ys =>
    have h2 := a2 (show (nStar y && ys.all nStar) = true from hs)
    refine PySem.W.callWith_K (h₀ := X.base) I.ok.mod.kin M.kp (thn (ha.run pos pins st σ H _ I (LA.mk s hh q fun ds S1 q1 vs H1 l r1 h1 => go ds S1 q1 vs H1 l r1 h1)) fun us s1 hv => ?_) (star1 h2.1) (stars h2.2 _)
    obtain ⟨vs, H1, I1, r1, q1⟩ := hv
    exact ⟨I1.kIn, run_makeG M F.ok G.hr F.b (passAt G.tk σ) I1 r1 q1⟩
theorem okA_all {sc : Scope} : ∀ {es : IEs} {xs : List Expr}, okA T N sc es xs = true → xs.all nStar = true
  | .nil, xs, h => by
    unfold okA at h
    split at h
    · rfl
    · cases h
  | .cons i is, xs, h => by
    unfold okA at h
    split at h
    · obtain ⟨h, h3⟩ := a2 h
      obtain ⟨h1, h2⟩ := a2 h
      rw [List.all_cons, h1, okA_all h3]
      rfl
    · cases h
end
end Z
namespace Z
open PySem PySem.Spec PyProof.Rows L2
/-- J walks the plain items ds as long as the store is as G says -/
structure Wk (K : PySem.W.Frag) (H0 : Hp) (J : It) (ds : List D) (G : Sto → Prop) : Prop where
  go : ∀ i H S, Lt K H0 H → HR K H S → G S → i < ds.length → J.go i H
  yld : ∀ i H S d, Lt K H0 H → HR K H S → G S → ds[i]? = some d → ∀ x H', J.yld i H x H' → Lt K H H' ∧ HR K H' S ∧ Rep K H' d x
  stop : ∀ i H S, Lt K H0 H → HR K H S → G S → ds.length ≤ i → J.stop i H
def LI (K : PySem.W.Frag) (w : Env' → Sto → (List D → (Sto → Prop) → Sto → Prop) → Prop) : TI := fun σ H R => ∃ δ S P, SR K H δ σ ∧ HR K H S ∧ w δ S P ∧
  ∀ ds G S', P ds G S' → ∀ J H', Lt K H H' → HR K H' S' → Wk K H' J ds G → R J H'
section
variable {K : PySem.W.Frag} {H H' : Hp} {S : Sto} {ds : List D} {vs : List V} {a : Addr}
theorem wk_list (hq : ∀ H' S, Lt K H H' → HR K H' S → True → SqL K H' a vs) (r : Reps K H ds vs) (G : Sto → Prop) (hG : ∀ H' S, Lt K H H' → HR K H' S → G S → SqL K H' a vs) : Wk K H (Itl K a) ds G where
  go := fun i H1 S l h g hi => ⟨vs, vs[i]'(by rw [← r.length]; exact hi), hG H1 S l h g, by rw [List.getElem?_eq_getElem]⟩
  yld := fun i H1 S d l h g e x H2 y => by
    obtain ⟨rfl, y⟩ := y
    obtain ⟨v, e1, r1⟩ := r.get e
    have z := y vs (hG _ S l h g)
    rw [e1] at z
    cases z
    exact ⟨Lt.refl, h, r1.mono l⟩
  stop := fun i H1 S l h g hi => ⟨vs, hG H1 S l h g, by rw [← r.length]; exact hi⟩
theorem wk_tup (hq : SqT K H a vs) (r : Reps K H ds vs) (G : Sto → Prop) : Wk K H (Itt K a) ds G where
  go := fun i H1 S l h g hi => ⟨vs, vs[i]'(by rw [← r.length]; exact hi), l.1 _ _ hq, by rw [List.getElem?_eq_getElem]⟩
  yld := fun i H1 S d l h g e x H2 y => by
    obtain ⟨rfl, y⟩ := y
    obtain ⟨v, e1, r1⟩ := r.get e
    have z := y vs (l.1 _ _ hq)
    rw [e1] at z
    cases z
    exact ⟨Lt.refl, h, r1.mono l⟩
  stop := fun i H1 S l h g hi => ⟨vs, l.1 _ _ hq, by rw [← r.length]; exact hi⟩
theorem wk_str (z : Str) (G : Sto → Prop) : Wk K H (Its z) (z.cps.toList.map fun c => .str ⟨#[c]⟩) G where
  go := fun i H1 S l h g hi => by show i < z.cps.size; simpa using hi
  yld := fun i H1 S d l h g e x H2 y => by
    obtain ⟨rfl, c, e1, rfl⟩ := y
    rw [List.getElem?_map] at e
    have e2 : z.cps.toList[i]? = some c := by simpa using e1
    rw [e2] at e
    cases e
    exact ⟨Lt.refl, h, rfl⟩
  stop := fun i H1 S l h g hi => by show z.cps.size ≤ i; simpa using hi
theorem wk_rng (lo : Int) (n : Nat) (G : Sto → Prop) : Wk K H (Itr lo n) (rangeD lo n) G where
  go := fun i H1 S l h g hi => by show i < n; simpa [rangeD] using hi
  yld := fun i H1 S d l h g e x H2 y => by
    obtain ⟨rfl, rfl⟩ := y
    unfold rangeD at e
    rw [List.getElem?_map] at e
    cases q : (List.range n)[i]? with
    | none => rw [q] at e; cases e
    | some j =>
      rw [q] at e
      have hj := List.getElem?_range (n := n) (i := i) (by have := (List.getElem?_eq_some_iff.mp q).1; simpa using this)
      rw [hj] at q
      cases q
      cases e
      exact ⟨Lt.refl, h, rfl⟩
  stop := fun i H1 S l h g hi => by show n ≤ i; simpa [rangeD] using hi
end
/-- over a list, a tuple or a text -/
def iSeq (K : PySem.W.Frag) (te : TE) : TI := fun σ H R => te σ H fun v H1 => (∃ a, v = .ref a ∧ (∃ xs, SqL K H1 a xs) ∧ R (Itl K a) H1) ∨ (∃ a, v = .ref a ∧ (∃ xs, SqT K H1 a xs) ∧ R (Itt K a) H1) ∨ ∃ z, v = .str z ∧ R (Its z) H1
theorem pi_seq {X : Cx} {tg e : Expr} {te : TE} (he : PE X e te) : PI X tg e (iSeq X.K te) := by
  refine ⟨fun pins s σ H R I h => thn (he.run pins s σ H _ I h) fun v s1 hv => ?_⟩
  obtain ⟨y, H1, I1, ry, q⟩ := hv
  rcases q with ⟨a, ea, ⟨xs, hq⟩, q⟩ | ⟨a, ea, ⟨xs, hq⟩, q⟩ | ⟨z, ez, q⟩
  · subst ea; cases ry
    obtain ⟨its, _, p, _⟩ := I1.list hq
    exact wpAny_pyIter_list p.isList (pi_one (tk := s1.toks) I1 _ (turn_list a _) ⟨_, Heap.get?_push_size _ rfl, rfl, rfl⟩ q)
  · subst ea; cases ry
    obtain ⟨its, _, p, _⟩ := I1.tuple hq
    exact wpAny_pyIter_tuple (show s1.heap.IsTuple a its.toArray from p) (pi_one (tk := s1.toks) I1 _ (turn_tuple a _) ⟨_, Heap.get?_push_size _ rfl, rfl, rfl⟩ q)
  · subst ez
    obtain ⟨t, rfl⟩ := ry
    by_cases ha : z.cps.all (· < 128) = true
    · exact wpAny_pyIter_ascii ha (pi_one (tk := s1.toks) I1 _ (turn_str _ z t "str_ascii_iterator" (.inl rfl)) ⟨_, Heap.get?_push_size _ rfl, rfl, rfl⟩ q)
    · have ha' : z.cps.all (· < 128) = false := by simpa using ha
      exact wpAny_pyIter_wide ha' (pi_one (tk := s1.toks) I1 _ (turn_str _ z t "str_iterator" (.inr rfl)) ⟨_, Heap.get?_push_size _ rfl, rfl, rfl⟩ q)
theorem seqO_r {K : PySem.W.Frag} {H : Hp} {S : Sto} {x : D} {v : V} {P : List D → (Sto → Prop) → Prop} {R : It → Hp → Prop} (q : seqO x S P) (rx : Rep K H x v) (h : HR K H S)
    (k : ∀ ds G, P ds G → ∀ J, Wk K H J ds G → R J H) : (∃ a, v = .ref a ∧ (∃ xs, SqL K H a xs) ∧ R (Itl K a) H) ∨ (∃ a, v = .ref a ∧ (∃ xs, SqT K H a xs) ∧ R (Itt K a) H) ∨ ∃ z, v = .str z ∧ R (Its z) H := by
  unfold seqO at q
  split at q
  · obtain ⟨a, us, rfl, sq, r⟩ := rx
    exact .inr (.inl ⟨a, rfl, ⟨us, sq⟩, k _ _ q _ (wk_tup sq r _)⟩)
  · obtain ⟨a, us, rfl, sq, r⟩ := rx
    exact .inl ⟨a, rfl, ⟨us, sq.sq⟩, k _ _ q _ (wk_list (fun H' S l _ _ => (sq.mono l).sq) r _ fun H' S l _ _ => (sq.mono l).sq)⟩
  · cases (show _ = _ from rx)
    exact .inr (.inr ⟨_, rfl, k _ _ q _ (wk_str _ _)⟩)
  · cases (show _ = _ from rx)
    rename_i a
    obtain ⟨xs, e0, q⟩ := q
    obtain ⟨us, h1, r⟩ := h.lst e0
    refine .inl ⟨_, rfl, ⟨us, SqL.of h1⟩, k _ _ q _ ?_⟩
    -- the list stands as S says
    refine ⟨fun i H1 S1 l h g hi => ?_, fun i H1 S1 d l h g e x H2 y => ?_, fun i H1 S1 l h g hi => ?_⟩
    · obtain ⟨ws, h2, r2⟩ := h.lst g
      exact ⟨ws, ws[i]'(by rw [← r2.length]; exact hi), SqL.of h2, by rw [List.getElem?_eq_getElem]⟩
    · obtain ⟨rfl, y⟩ := y
      obtain ⟨ws, h2, r2⟩ := h.lst g
      obtain ⟨w, e1, r1⟩ := r2.get e
      have z := y ws (SqL.of h2)
      rw [e1] at z
      cases z
      exact ⟨Lt.refl, h, r1⟩
    · obtain ⟨ws, h2, r2⟩ := h.lst g
      exact ⟨ws, SqL.of h2, by rw [← r2.length]; exact hi⟩
  · exact q.elim
def rTgs : List Nat → TGs
  | [] => gNil
  | i :: is => gCons (gName i) (rTgs is)
def rTg (K : PySem.W.Frag) : IT → TG
  | .n i => gName i
  | .t is => gTup K is.length (rTgs is)
def tgIx : IT → List Nat
  | .n i => [i]
  | .t is => is
section
variable {K : PySem.W.Frag} {H : Hp} {δ : Env'} {σ : L2.St}
theorem tgs_r {k : Env' → Prop} {Q : L2.St → Hp → Prop} : ∀ {is : List Nat} {xs : List D} {vs : List V} {δ : Env'} {σ : L2.St}, xs.length = is.length → k ((is.zip xs).foldl (fun δ p => δ.set p.1 (some p.2)) δ) → Reps K H xs vs → SR K H δ σ →
    (∀ δ' σ', k δ' → SR K H δ' σ' → (∀ ws : List Nat, (∀ i ∈ is, i ∈ ws) → wipe σ' ws = wipe σ ws) → Q σ' H) → rTgs is vs σ H Q
  | [], xs, vs, δ, σ, hl, q, r, s, c => by
    cases xs with
    | nil =>
      cases (show _ = [] from r)
      exact ⟨rfl, c _ _ q s fun _ _ => rfl⟩
    | cons x xs => cases hl
  | i :: is, xs, vs, δ, σ, hl, q, r, s, c => by
    cases xs with
    | nil => cases hl
    | cons x xs =>
      obtain ⟨v, vr, e, r1, r2⟩ := r
      subst e
      refine ⟨v, vr, rfl, ?_⟩
      refine tgs_r (δ := δ.set i (some x)) (by simpa using hl) q r2 (s.set r1 i) fun δ' σ' kq s' w => c δ' σ' kq s' fun ws hw => ?_
      rw [w ws fun j hj => hw j (List.mem_cons_of_mem _ hj), wipe_set (hw i List.mem_cons_self)]
theorem tgO_r {t : IT} {x : D} {v : V} {k : Env' → Prop} {Q : L2.St → Hp → Prop} (q : tgO t x δ k) (r : Rep K H x v) (s : SR K H δ σ)
    (c : ∀ δ' σ', k δ' → SR K H δ' σ' → (∀ ws : List Nat, (∀ i ∈ tgIx t, i ∈ ws) → wipe σ' ws = wipe σ ws) → Q σ' H) : rTg K t v σ H Q := by
  cases t with
  | n i => exact c _ _ q (s.set r i) fun ws hw => wipe_set (hw i List.mem_cons_self)
  | t is =>
    unfold tgO at q
    dsimp only at q
    split at q
    · obtain ⟨a, us, rfl, sq, r⟩ := r
      exact ⟨a, us, rfl, sq, by rw [← r.length]; exact q.1, tgs_r q.1 q.2 r s c⟩
    · exact q.elim
end
section
variable {T : Tb} {Γ : Gm} {lev : Nat} {N : List Str} {X : Cx} {sc : Scope} {E : DXS}
theorem sndTgs (G : GX T Γ lev N X sc E) {own : List (Str × Nat)} : ∀ {is : List Nat} {es : List Expr}, okTgs T N own sc is es = true → PGs X es (rTgs is) ∧ (assignEach es X.env).length = is.length ∧ (assignEach es X.env).findIdx? (·.1) = none ∧ ∀ i ∈ is, i ∈ own.map (·.2)
  | [], es, h => by
    unfold okTgs at h
    split at h
    · exact ⟨pgs_nil, rfl, rfl, fun _ z => nomatch z⟩
    · cases h
  | i :: is, es, h => by
    unfold okTgs at h
    split at h
    · obtain ⟨h, h4⟩ := a2 h
      obtain ⟨h, h3⟩ := a2 h
      obtain ⟨h1, h2⟩ := a2 h
      obtain ⟨p1, p2, p3, p4⟩ := sndTgs G h4
      have hl := G.loc h2
      refine ⟨pgs_cons (pg_name (by rw [G.hN]; exact G.nd) (by rw [G.hN]; exact of_decide_eq_true h1) (.inl hl) (.inr hl)) p1, ?_, ?_, fun j hj => ?_⟩
      · show (assignEach _ X.env).length + 1 = _
        rw [p2] <;> rfl
      · show List.findIdx? (·.1) ((false, _) :: assignEach _ X.env) = none
        rw [List.findIdx?_cons]
        simp [p3]
      · rcases List.mem_cons.mp hj with e | hj
        · rw [e]; exact of_decide_eq_true h3
        · exact p4 j hj
    · cases h
theorem sndTg (G : GX T Γ lev N X sc E) {own : List (Str × Nat)} {t : IT} {e : Expr} (h : okTg T N own sc t e = true) : PG X e (rTg X.K t) ∧ ∀ i ∈ tgIx t, i ∈ own.map (·.2) := by
  cases t with
  | n i =>
    unfold okTg at h
    dsimp only at h
    split at h
    · obtain ⟨h, h3⟩ := a2 h
      obtain ⟨h1, h2⟩ := a2 h
      have hl := G.loc h2
      refine ⟨pg_name (by rw [G.hN]; exact G.nd) (by rw [G.hN]; exact of_decide_eq_true h1) (.inl hl) (.inr hl), fun j hj => ?_⟩
      have e : j = i := by simpa [tgIx] using hj
      rw [e]; exact of_decide_eq_true h3
    · cases h
  | t is =>
    unfold okTg at h
    dsimp only at h
    split at h
    · obtain ⟨p1, p2, p3, p4⟩ := sndTgs G h
      exact ⟨pg_tup G.calm p1 p2 p3, p4⟩
    · cases h
end
theorem okTgs_own {T : Tb} {N : List Str} {own : List (Str × Nat)} {sc : Scope} : ∀ {is : List Nat} {es : List Expr}, okTgs T N own sc is es = true → ∀ i ∈ is, i ∈ own.map (·.2)
  | [], _, _ => fun _ z => nomatch z
  | i :: is, es, h => by
    unfold okTgs at h
    split at h
    · obtain ⟨h, h4⟩ := a2 h
      obtain ⟨h, h3⟩ := a2 h
      intro j hj
      rcases List.mem_cons.mp hj with e | hj
      · rw [e]; exact of_decide_eq_true h3
      · exact okTgs_own h4 j hj
    · cases h
theorem okTg_own {T : Tb} {N : List Str} {own : List (Str × Nat)} {sc : Scope} {t : IT} {e : Expr} (h : okTg T N own sc t e = true) : ∀ i ∈ tgIx t, i ∈ own.map (·.2) := by
  cases t with
  | n i =>
    unfold okTg at h
    dsimp only at h
    split at h
    · obtain ⟨h, h3⟩ := a2 h
      intro j hj
      have e : j = i := by simpa [tgIx] using hj
      rw [e]; exact of_decide_eq_true h3
    · cases h
  | t is =>
    unfold okTg at h
    dsimp only at h
    split at h
    · exact okTgs_own h
    · cases h
theorem lc_r {K : PySem.W.Frag} {H1 : Hp} {S1 : Sto} {δ : Env'} {σ : L2.St} {J : It} {ds : List D} {G : Sto → Prop} {t : IT} {vs : List Nat} {tt : TT} {te : TE} {wt : Env' → Sto → (Bool → Sto → Prop) → Prop} {we : Env' → Sto → DK → Prop} {Q0 : DK} {Q : VK} {D : Addr}
    (s : SR K H1 δ σ) (hh : HR K H1 S1) (W : Wk K H1 J ds G) (ht : ∀ i ∈ tgIx t, i ∈ vs) (hD : H1 D = none)
    (htt : ∀ σ H Q, LT K wt σ H Q → tt σ H Q) (hte : ∀ σ H Q, LE K we σ H Q → te σ H Q)
    (q : lcLoop G (fun d S2 k => tgO t d (wipeD δ vs) fun δ2 => wt δ2 S2 fun b S3 => match b with
        | true => we δ2 S3 fun y S4 => ∃ acc, S4 D = some (.lst acc) ∧ acc.length < sizeLine ∧ k (put S4 D (.lst (acc ++ [y])))
        | false => k S3) ds (put S1 D (.lst [])) fun S2 => Q0 (.loc D) S2) (c : Ct K H1 Q0 Q) :
    ∃ W : Nat → Nat → Hp → Prop, (∃ m, W 0 m (upd H1 D (.lst []))) ∧ ∀ i m H, W i m H →
      (J.stop i H ∧ Q (.ref D) H) ∨ (J.go i H ∧ ∃ Nx : Hp → Prop, (∀ H', Nx H' → ∃ m', m' < m ∧ W (i + 1) m' H') ∧ ∀ x H', J.yld i H x H' → rTg K t x (wipe σ vs) H' fun σ2 H2 => wipe σ2 vs = wipe σ vs ∧ tt σ2 H2 fun b H3 =>
        if b = true then te σ2 H3 fun y H4 => ∃ acc, H4 D = some (.lst acc) ∧ acc.length < sizeLine ∧ Nx (upd H4 D (.lst (acc ++ [y]))) else Nx H3) := by
  let Lp := lcLoop G (fun d S2 k => tgO t d (wipeD δ vs) fun δ2 => wt δ2 S2 fun b S3 => match b with
        | true => we δ2 S3 fun y S4 => ∃ acc, S4 D = some (.lst acc) ∧ acc.length < sizeLine ∧ k (put S4 D (.lst (acc ++ [y])))
        | false => k S3)
  let P : Nat → Hp → Prop := fun i H => i ≤ ds.length ∧ Lt K H1 H ∧ ∃ S, HR K H S ∧ Lp (ds.drop i) S fun S2 => Q0 (.loc D) S2
  refine ⟨fun i m H => m = ds.length - i ∧ P i H, ⟨ds.length, rfl, Nat.zero_le _, Lt.newO hD, put S1 D (.lst []), hh.putO (Lt.newO hD) ⟨[], upd_same, rfl⟩, q⟩, ?_⟩
  rintro i m H ⟨rfl, hi, l, S, h, q⟩
  by_cases hlt : i < ds.length
  · have e : ds.drop i = ds[i] :: ds.drop (i + 1) := List.drop_eq_getElem_cons hlt
    rw [e] at q
    obtain ⟨g, q⟩ := q
    refine .inr ⟨W.go i H S l h g hlt, P (i + 1), fun H' p => ⟨ds.length - (i + 1), by omega, rfl, p⟩, fun x H' y => ?_⟩
    obtain ⟨l1, h1, r1⟩ := W.yld i H S ds[i] l h g (List.getElem?_eq_getElem hlt) x H' y
    have s1 : SR K H' (wipeD δ vs) (wipe σ vs) := wipe_ofD (s.mono (l.trans l1)) vs
    refine tgO_r q r1 s1 fun δ2 σ2 q2 s2 w2 => ⟨by rw [w2 vs ht, wipe_wipe], htt _ _ _ ?_⟩
    refine ⟨δ2, S, _, s2, h1, q2, fun b S3 q3 H3 l3 h3 => ?_⟩
    cases b with
    | true =>
      rw [if_pos rfl]
      refine hte _ _ _ (LE.mk (s2.mono l3) h3 q3 fun y S4 q4 v H4 l4 r4 h4 => ?_)
      obtain ⟨acc, e4, hz, T, sb, q5⟩ := q4
      obtain ⟨ws, e5, r5⟩ := h4.lst e4
      refine ⟨ws, e5, by rw [← r5.length]; exact hz, hlt, ((l.trans l1).trans (l3.trans l4)).trans (Lt.lstO e5), T, ?_, q5⟩
      exact HR.sub (h4.putO (o := .lst (acc ++ [y])) (Lt.lstO e5) ⟨_, upd_same, (r5.append (.one r4)).mono (Lt.lstO e5)⟩) sb
    | false =>
      rw [if_neg Bool.false_ne_true]
      obtain ⟨T, sb, q5⟩ := q3
      exact ⟨hlt, (l.trans l1).trans l3, T, h3.sub sb, q5⟩
  · have e : i = ds.length := by omega
    subst e
    rw [List.drop_length] at q
    exact .inl ⟨W.stop _ H S l h q.1 (Nat.le_refl _), c _ _ q.2 _ _ l rfl h⟩
end Z
namespace Z
open PySem PySem.Spec PyProof.Rows L2
section
variable {T : Tb} {Γ : Gm} {lev : Nat} {N : List Str}
theorem asB_and {b : Env' → Sto → DK → Prop} {δ : Env'} {Q : Bool → Sto → Prop} : (asB fun k S1 => match k with | true => b δ S1 (asB Q) | false => Q false S1) = fun x S1 => match x with
    | .bl true => b δ S1 (asB Q)
    | .bl false => asB Q (.bl false) S1
    | _ => False := by
  funext x S1
  cases x with
  | bl k => cases k <;> rfl
  | _ => rfl
theorem asB_or {b : Env' → Sto → DK → Prop} {δ : Env'} {Q : Bool → Sto → Prop} : (asB fun k S1 => match k with | true => Q true S1 | false => b δ S1 (asB Q)) = fun x S1 => match x with
    | .bl true => asB Q (.bl true) S1
    | .bl false => b δ S1 (asB Q)
    | _ => False := by
  funext x S1
  cases x with
  | bl k => cases k <;> rfl
  | _ => rfl
theorem asB_not {Q : Bool → Sto → Prop} : (asB fun k S1 => Q (!k) S1) = fun x S1 => match x with
    | .bl true => asB Q (.bl false) S1
    | .bl false => asB Q (.bl true) S1
    | _ => False := by
  funext x S1
  cases x with
  | bl k => cases k <;> rfl
  | _ => rfl
section
variable {K : PySem.W.Frag} {H : Hp} {σ : L2.St} {Q : VK} {wa wb wc : Env' → Sto → DK → Prop}
theorem and_r (h : LE K (fun δ S Q => wa δ S fun x S1 => match x with
    | .bl true => wb δ S1 Q
    | .bl false => Q (.bl false) S1
    | _ => False) σ H Q) : tAndV (LE K wa) (LE K wb) σ H Q := by
  obtain ⟨δ, S, Q0, s, hh, q, k⟩ := h
  refine LE.mk s hh q fun x S1 q1 v H1 l r h1 => ?_
  split at q1
  · cases (show _ = _ from r); exact ⟨true, rfl, by rw [if_pos rfl]; exact ⟨δ, S1, Q0, s.mono l, h1, q1, Ct.mono k l⟩⟩
  · cases (show _ = _ from r); exact ⟨false, rfl, by rw [if_neg Bool.false_ne_true]; exact (Ct.mono k l).bl h1 q1⟩
  · exact q1.elim
theorem or_r (h : LE K (fun δ S Q => wa δ S fun x S1 => match x with
    | .bl true => Q (.bl true) S1
    | .bl false => wb δ S1 Q
    | _ => False) σ H Q) : tOrV (LE K wa) (LE K wb) σ H Q := by
  obtain ⟨δ, S, Q0, s, hh, q, k⟩ := h
  refine LE.mk s hh q fun x S1 q1 v H1 l r h1 => ?_
  split at q1
  · cases (show _ = _ from r); exact ⟨true, rfl, by rw [if_pos rfl]; exact (Ct.mono k l).bl h1 q1⟩
  · cases (show _ = _ from r); exact ⟨false, rfl, by rw [if_neg Bool.false_ne_true]; exact ⟨δ, S1, Q0, s.mono l, h1, q1, Ct.mono k l⟩⟩
  · exact q1.elim
theorem not_r (h : LE K (fun δ S Q => wa δ S fun x S1 => match x with
    | .bl true => Q (.bl false) S1
    | .bl false => Q (.bl true) S1
    | _ => False) σ H Q) : tNotV (LE K wa) σ H Q := by
  obtain ⟨δ, S, Q0, s, hh, q, k⟩ := h
  refine LE.mk s hh q fun x S1 q1 v H1 l r h1 => ?_
  split at q1
  · cases (show _ = _ from r); exact ⟨_, rfl, (Ct.mono k l).bl h1 q1⟩
  · cases (show _ = _ from r); exact ⟨_, rfl, (Ct.mono k l).bl h1 q1⟩
  · exact q1.elim
/-- a test in front -/
theorem ite_r (h : LE K (fun δ S Q => wc δ S fun x S1 => match x with
    | .bl true => wa δ S1 Q
    | .bl false => wb δ S1 Q
    | _ => False) σ H Q) : tIf (LT K fun δ S Q => wc δ S (asB Q)) (LE K wa) (LE K wb) σ H Q := by
  obtain ⟨δ, S, Q0, s, hh, q, k⟩ := h
  have e : (asB fun k S1 => match k with | true => wa δ S1 Q0 | false => wb δ S1 Q0) = fun x S1 => match x with
    | .bl true => wa δ S1 Q0
    | .bl false => wb δ S1 Q0
    | _ => False := by
    funext x S1
    cases x with
    | bl k => cases k <;> rfl
    | _ => rfl
  rw [← e] at q
  refine ⟨δ, S, _, s, hh, q, fun b S1 q1 H1 l h1 => ?_⟩
  cases b with
  | true => rw [if_pos rfl]; exact ⟨δ, S1, Q0, s.mono l, h1, q1, Ct.mono k l⟩
  | false => rw [if_neg Bool.false_ne_true]; exact ⟨δ, S1, Q0, s.mono l, h1, q1, Ct.mono k l⟩
theorem andT_r {Q : Bool → Hp → Prop} (h : LT K (fun δ S Q => wa δ S fun x S1 => match x with
    | .bl true => wb δ S1 (asB Q)
    | .bl false => asB Q (.bl false) S1
    | _ => False) σ H Q) : tAnd (LT K fun δ S Q => wa δ S (asB Q)) (LT K fun δ S Q => wb δ S (asB Q)) σ H Q := by
  obtain ⟨δ, S, Q0, s, hh, q, k⟩ := h
  rw [← asB_and] at q
  refine ⟨δ, S, _, s, hh, q, fun b S1 q1 H1 l h1 => ?_⟩
  cases b with
  | true => rw [if_pos rfl]; exact ⟨δ, S1, Q0, s.mono l, h1, q1, fun b S2 q2 H2 l2 h2 => k b S2 q2 H2 (l.trans l2) h2⟩
  | false => rw [if_neg Bool.false_ne_true]; exact k _ _ q1 _ l h1
theorem orT_r {Q : Bool → Hp → Prop} (h : LT K (fun δ S Q => wa δ S fun x S1 => match x with
    | .bl true => asB Q (.bl true) S1
    | .bl false => wb δ S1 (asB Q)
    | _ => False) σ H Q) : tOr (LT K fun δ S Q => wa δ S (asB Q)) (LT K fun δ S Q => wb δ S (asB Q)) σ H Q := by
  obtain ⟨δ, S, Q0, s, hh, q, k⟩ := h
  rw [← asB_or] at q
  refine ⟨δ, S, _, s, hh, q, fun b S1 q1 H1 l h1 => ?_⟩
  cases b with
  | true => rw [if_pos rfl]; exact k _ _ q1 _ l h1
  | false => rw [if_neg Bool.false_ne_true]; exact ⟨δ, S1, Q0, s.mono l, h1, q1, fun b S2 q2 H2 l2 h2 => k b S2 q2 H2 (l.trans l2) h2⟩
theorem notT_r {Q : Bool → Hp → Prop} (h : LT K (fun δ S Q => wa δ S fun x S1 => match x with
    | .bl true => asB Q (.bl false) S1
    | .bl false => asB Q (.bl true) S1
    | _ => False) σ H Q) : tNot (LT K fun δ S Q => wa δ S (asB Q)) σ H Q := by
  obtain ⟨δ, S, Q0, s, hh, q, k⟩ := h
  rw [← asB_not] at q
  exact ⟨δ, S, _, s, hh, q, fun b S1 q1 H1 l h1 => k _ _ q1 _ l h1⟩
theorem chnT_r {o1 o2 : Cm} {Q : Bool → Hp → Prop} (h : LT K (fun δ S Q => wa δ S fun x S1 => wb δ S1 fun y S2 => cop o1 x y S2 fun k => match k with
    | true => wc δ S2 fun z S3 => cop o2 y z S3 fun k => asB Q (.bl k) S3
    | false => asB Q (.bl false) S2) σ H Q) : tTest (tChain (rC K o1) (rC K o2) (LE K wa) (LE K wb) (LE K wc)) σ H Q := by
  obtain ⟨δ, S, Q0, s, hh, q, k⟩ := h
  refine LE.two s hh q fun x y S2 q2 v u H2 l r1 r2 h2 => cop_r q2 r1 r2 h2 fun b qb => ⟨b, rfl, ?_⟩
  cases b with
  | true =>
    rw [if_pos rfl]
    exact LE.mk (s.mono l) h2 qb fun z S3 q3 w H3 l3 r3 h3 => cop_r q3 (r2.mono l3) r3 h3 fun b qb => ⟨b, rfl, k b S3 qb H3 (l.trans l3) h3⟩
  | false =>
    rw [if_neg Bool.false_ne_true]
    exact ⟨false, rfl, k _ _ qb _ l h2⟩
end
theorem isiT_ok {z : Str} {t : String} (h : (z, t) ∈ isiT) : bootBuiltins z = some (.type t) ∧ z ∈ blt ∧ z ≠ "__name__" := by
  unfold isiT at h
  simp only [List.mem_cons, Prod.mk.injEq, List.not_mem_nil, or_false] at h
  rcases h with ⟨rfl, rfl⟩ | ⟨rfl, rfl⟩ | ⟨rfl, rfl⟩ | ⟨rfl, rfl⟩ | ⟨rfl, rfl⟩ | ⟨rfl, rfl⟩ <;> decide +kernel
theorem bi_boot (b : Bi) : bootBuiltins b.nm = some b.val := by
  cases b <;> decide +kernel
theorem isi_boot : bootBuiltins "isinstance" = some (.builtin "isinstance") := by decide +kernel
theorem bi_call {X : Cx} {sc : Scope} {E : DXS} (G : GX T Γ lev N X sc E) {b : Bi} {x : Str} {y : Expr} {ys : List Expr} {t : TA} {p pos : Pos} (hx : x = b.nm) (hg : glB sc x = true) (hn : x ≠ "__name__") (hb : x ∈ blt) (hs : (y :: ys).all nStar = true) (ha : PA X (y :: ys) t) :
    PE X (.Call (.Name x p) (y :: ys) [] pos) (tCB (rBi X.K b) t) := by
  have h2 := a2 (show (nStar y && ys.all nStar) = true from hs)
  obtain ⟨g1, g2⟩ := G.gl hg
  have hv := bi_boot b
  rw [← hx] at hv
  have hc := callBi G.calm b
  cases b <;> first
    | exact pe_callB hc g1 (G.bl _ hb) hv ha hn g2 (star1 h2.1) (stars h2.2 _)
    | exact pe_callTy hc g1 (G.bl _ hb) hv ha hn g2 (star1 h2.1) (stars h2.2 _)
theorem isi_call {X : Cx} {sc : Scope} {E : DXS} (G : GX T Γ lev N X sc E) {x z : Str} {y : Expr} {ty : String} {t : TE} {p p2 pos : Pos} (hx : x = "isinstance") (hg : glB sc x = true) (hz : glB sc z = true) (hs : nStar y = true) (hm : (z, ty) ∈ isiT) (ha : PE X y t) :
    PE X (.Call (.Name x p) [y, .Name z p2] [] pos) (tCB (rIsi X.K) (tCons t (tCons (tC (.ty ty)) tNil))) := by
  obtain ⟨g1, g2⟩ := G.gl hg
  obtain ⟨g3, g4⟩ := G.gl hz
  obtain ⟨b1, b2, b3⟩ := isiT_ok hm
  subst hx
  refine pe_callB call_isi g1 (G.bl _ (by decide)) isi_boot (pa_cons ha (pa_cons (pe_bltn g3 (G.bl _ b2) b1 rfl b3 g4) pa_nil) (star1 hs)) (by decide) g2 (star1 hs) ?_
  rfl
variable (T Γ lev N) in
def PEs (i : IE) : Prop := ∀ {X : Cx} {sc : Scope} {E : DXS}, GX T Γ lev N X sc E → ∀ e : Expr, okE T N sc i e = true → PE X e (LE X.K fun δ S Q => dE Γ (Ex E δ) i δ S Q)
variable (T Γ lev N) in
def PTs (i : IE) : Prop := ∀ {X : Cx} {sc : Scope} {E : DXS}, GX T Γ lev N X sc E → ∀ e : Expr, okT T N sc i e = true → PT X e (LT X.K fun δ S Q => dE Γ (Ex E δ) i δ S (asB Q))
theorem leafT {i : IE} (h : ∀ sc e, okT T N sc i e = true → okE T N sc i e = true ∧ plT e = true) (hE : PEs T Γ lev N i) : PTs T Γ lev N i := by
  intro X sc E G e ho
  obtain ⟨h1, h2⟩ := h sc e ho
  exact (pt_val (hE G e h1) (plTrue h2)).imp fun _ _ _ z => LE.tst (w := fun δ S Q => dE Γ (Ex E δ) i δ S Q) z
theorem noT {i : IE} (h : ∀ sc e, okT T N sc i e = false) : PTs T Γ lev N i := by
  intro X sc E G e ho
  rw [h sc e] at ho
  cases ho
theorem pw_pt {X : Cx} {op : BoolOp} {xs : List Expr} {p : Pos} {t : TT} (h : PT X (.BoolOp op xs p) t) : PW X (.BoolOp op xs p) t := ⟨fun wh pins s σ H Q I q => h.run pins s σ H Q I q⟩
theorem all2 {y : Expr} {ys : List Expr} (h : (y :: ys).all nStar = true) : nStar y = true ∧ ys.all nStar = true := a2 h
abbrev PTs' := L2.PTs
theorem PTs'.imp {X : Cx} {e : List Expr} {t t' : TT} (h : PTs' X e t) (i : ∀ σ H Q, t' σ H Q → t σ H Q) : PTs' X e t' := ⟨fun pins s σ H Q I q => h.run pins s σ H Q I (i σ H Q q)⟩
def LO (K : PySem.W.Frag) (w : Env' → Sto → (Option Int → Sto → Prop) → Prop) : TO := fun σ H Q => ∃ δ S Q0, SR K H δ σ ∧ HR K H S ∧ w δ S Q0 ∧ ∀ b S', Q0 b S' → ∀ H', Lt K H H' → HR K H' S' → Q b H'
theorem PO.imp {X : Cx} {e : Option Expr} {t t' : TO} (h : PO X e t) (i : ∀ σ H Q, t' σ H Q → t σ H Q) : PO X e t' := ⟨fun pins s σ H Q I q => h.run pins s σ H Q I (i σ H Q q)⟩
theorem okA_nil {sc : Scope} {es : IEs} (h : okA T N sc es [] = true) : es = .nil := by
  cases es with
  | nil => rfl
  | cons a b => unfold okA at h; cases h
mutual
theorem sndE : ∀ i : IE, PEs T Γ lev N i ∧ PTs T Γ lev N i
  | .c k => by
    have hE : PEs T Γ lev N (.c k) := by
      intro X sc E G e h
      unfold okE at h
      split at h
      · rename_i c kk pos
        have : PE X (.Constant c kk pos) (tC (match k with | .non => .non | .bl b => .bl b | .int i => .int i | .str x => .str x)) := by
          cases k <;> cases c <;> first
            | (cases h; done)
            | exact pe_non
            | (cases (eq_of_beq h); exact pe_bl)
            | (cases (of_decide_eq_true h); exact pe_int)
            | (cases (of_decide_eq_true h); exact pe_str)
        refine this.imp fun σ H Q ⟨δ, S, Q0, s, hh, q, k1⟩ => k1 _ _ q _ _ Lt.refl ?_ hh
        cases k <;> rfl
      · cases h
    exact ⟨hE, leafT (fun sc e ho => by cases e <;> first | (unfold okT at ho; cases ho; done) | exact ⟨by unfold okT at ho; unfold okE; exact ho, rfl⟩) hE⟩
  | .v i => by
    have hE : PEs T Γ lev N (.v i) := by
      intro X sc E G e h
      unfold okE at h
      split at h
      · obtain ⟨h, h4⟩ := a2 h
        obtain ⟨h, h3⟩ := a2 h
        obtain ⟨h1, h2⟩ := a2 h
        refine (pe_var (i := i) (by rw [G.hN]; exact of_decide_eq_true h1) (G.vis h2) (by simpa [dbgB] using h3) (by simpa using h4)).imp fun σ H Q ⟨δ, S, Q0, s, hh, q, k⟩ => ?_
        have q' : (match δ[i]? with | some (some d) => Q0 d S | _ => False) := q
        split at q'
        · rename_i d e
          obtain ⟨v, e1, r⟩ := s.2 i d e
          exact ⟨v, e1, k _ _ q' _ _ Lt.refl r hh⟩
        · exact q'.elim
      · cases h
    exact ⟨hE, leafT (fun sc e ho => by cases e <;> first | (unfold okT at ho; cases ho; done) | exact ⟨by unfold okT at ho; unfold okE; exact ho, rfl⟩) hE⟩
  | .g j => by
    have hE : PEs T Γ lev N (.g j) := by
      intro X sc E G e h
      unfold okE at h
      split at h
      · obtain ⟨h1, h2⟩ := a2 h
        obtain ⟨u, v, e1, r1, r2⟩ := G.con j _ (of_decide_eq_true h1)
        obtain ⟨g1, g2⟩ := G.gl h2
        exact (pe_glob g1 e1 r1 g2).imp fun σ H Q ⟨δ, S, Q0, s, hh, q, k⟩ => k _ _ q _ _ Lt.refl (r2 H) hh
      · cases h
    exact ⟨hE, noT fun sc e => by unfold okT; rfl⟩
  | .b2 o a b => by
    have hE : PEs T Γ lev N (.b2 o a b) := by
      intro X sc E G e h
      unfold okE at h
      split at h
      · obtain ⟨h, h3⟩ := a2 h
        obtain ⟨h1, h2⟩ := a2 h
        rw [okB2_op h1]
        exact (pe_op (opB o) ((sndE a).1 G _ h2) ((sndE b).1 G _ h3)).imp fun _ _ _ h => LE.op2 h
      · cases h
    exact ⟨hE, noT fun sc e => by unfold okT; rfl⟩
  | .neg a => by
    have hE : PEs T Γ lev N (.neg a) := by
      intro X sc E G e h
      unfold okE at h
      split at h
      · refine (pe_un un_neg ((sndE a).1 G _ h)).imp fun σ H Q ⟨δ, S, Q0, s, hh, q, k⟩ => LE.mk s hh q fun x S1 q1 v H1 l r h1 => ?_
        split at q1
        · cases (show _ = _ from r); exact ⟨_, rfl, (Ct.mono k l).int h1 q1⟩
        · exact q1.elim
      · cases h
    exact ⟨hE, noT fun sc e => by unfold okT; rfl⟩
  | .cmp o a b => by
    have hE : PEs T Γ lev N (.cmp o a b) := by
      intro X sc E G e h
      unfold okE at h
      split at h
      · obtain ⟨h, h4⟩ := a2 h
        obtain ⟨h, h3⟩ := a2 h
        obtain ⟨h1, h2⟩ := a2 h
        rw [okCm_op h1]
        exact (pe_cmpR (opC G.units o) ((sndE a).1 G _ h3) ((sndE b).1 G _ h4) (nomarks h2 _)).imp fun _ _ _ h => LE.cm2 h
      · cases h
    have hT : PTs T Γ lev N (.cmp o a b) := by
      intro X sc E G e h
      unfold okT at h
      split at h
      · obtain ⟨h, h4⟩ := a2 h
        obtain ⟨h, h3⟩ := a2 h
        obtain ⟨h1, h2⟩ := a2 h
        rw [okCm_op h1]
        exact (pt_cmpR (opC G.units o) ((sndE a).1 G _ h3) ((sndE b).1 G _ h4) (nomarks h2 _)).imp fun _ _ _ h => LE.cmT (wa := fun δ S Q => dE Γ (Ex E δ) a δ S Q) (wb := fun δ S Q => dE Γ (Ex E δ) b δ S Q) h
      · cases h
    exact ⟨hE, hT⟩
  | .chn o1 o2 a b c => by
    have hE : PEs T Γ lev N (.chn o1 o2 a b c) := by
      intro X sc E G e h
      unfold okE at h
      split at h
      · obtain ⟨h, h7⟩ := a2 h
        obtain ⟨h, h6⟩ := a2 h
        obtain ⟨h, h5⟩ := a2 h
        obtain ⟨h, h4⟩ := a2 h
        obtain ⟨h, h3⟩ := a2 h
        obtain ⟨h1, h2⟩ := a2 h
        rw [okCm_op h1, okCm_op h2]
        exact (pe_chain (opC G.units o1) (opC G.units o2) ((sndE a).1 G _ h5) ((sndE b).1 G _ h6) ((sndE c).1 G _ h7) (nomarks h4 _)).imp fun _ _ _ h => chn_true h
      · cases h
    have hT : PTs T Γ lev N (.chn o1 o2 a b c) := by
      intro X sc E G e h
      unfold okT at h
      split at h
      · obtain ⟨h, h7⟩ := a2 h
        obtain ⟨h, h6⟩ := a2 h
        obtain ⟨h, h5⟩ := a2 h
        obtain ⟨h, h4⟩ := a2 h
        obtain ⟨h, h3⟩ := a2 h
        obtain ⟨h1, h2⟩ := a2 h
        rw [okCm_op h1, okCm_op h2]
        exact (pt_chain (opC G.units o1) (opC G.units o2) ((sndE a).1 G _ h5) ((sndE b).1 G _ h6) ((sndE c).1 G _ h7) (nomarks h4 _)).imp fun _ _ _ h =>
          chnT_r (wa := fun δ S Q => dE Γ (Ex E δ) a δ S Q) (wb := fun δ S Q => dE Γ (Ex E δ) b δ S Q) (wc := fun δ S Q => dE Γ (Ex E δ) c δ S Q) h
      · cases h
    exact ⟨hE, hT⟩
  | .and a b => by
    have hE : PEs T Γ lev N (.and a b) := by
      intro X sc E G e h
      unfold okE at h
      split at h
      · obtain ⟨h1, h2⟩ := a2 h
        split at h2
        · exact (pe_and ((sndE a).1 G _ h1) (pe_one ((sndE b).1 G _ h2))).imp fun _ _ _ h => and_r h
        · exact (pe_and ((sndE a).1 G _ h1) ((sndE b).1 G _ h2)).imp fun _ _ _ h => and_r h
      · cases h
    have hT : PTs T Γ lev N (.and a b) := by
      intro X sc E G e h
      unfold okT at h
      split at h
      · obtain ⟨h1, h2⟩ := a2 h
        split at h2
        · exact (pw_and ((sndE a).2 G _ h1) (pw_and1 ((sndE b).2 G _ h2))).pt.imp fun _ _ _ h => andT_r (wa := fun δ S Q => dE Γ (Ex E δ) a δ S Q) (wb := fun δ S Q => dE Γ (Ex E δ) b δ S Q) h
        · exact (pw_and ((sndE a).2 G _ h1) (pw_pt <| (sndE b).2 G _ h2)).pt.imp fun _ _ _ h => andT_r (wa := fun δ S Q => dE Γ (Ex E δ) a δ S Q) (wb := fun δ S Q => dE Γ (Ex E δ) b δ S Q) h
      · cases h
    exact ⟨hE, hT⟩
  | .or a b => by
    have hE : PEs T Γ lev N (.or a b) := by
      intro X sc E G e h
      unfold okE at h
      split at h
      · obtain ⟨h1, h2⟩ := a2 h
        split at h2
        · exact (pe_or ((sndE a).1 G _ h1) (pe_one ((sndE b).1 G _ h2))).imp fun _ _ _ h => or_r h
        · exact (pe_or ((sndE a).1 G _ h1) ((sndE b).1 G _ h2)).imp fun _ _ _ h => or_r h
      · cases h
    have hT : PTs T Γ lev N (.or a b) := by
      intro X sc E G e h
      unfold okT at h
      split at h
      · obtain ⟨h1, h2⟩ := a2 h
        split at h2
        · exact (pw_or ((sndE a).2 G _ h1) (pw_or1 ((sndE b).2 G _ h2))).pt.imp fun _ _ _ h => orT_r (wa := fun δ S Q => dE Γ (Ex E δ) a δ S Q) (wb := fun δ S Q => dE Γ (Ex E δ) b δ S Q) h
        · exact (pw_or ((sndE a).2 G _ h1) (pw_pt <| (sndE b).2 G _ h2)).pt.imp fun _ _ _ h => orT_r (wa := fun δ S Q => dE Γ (Ex E δ) a δ S Q) (wb := fun δ S Q => dE Γ (Ex E δ) b δ S Q) h
      · cases h
    exact ⟨hE, hT⟩
  | .not a => by
    have hE : PEs T Γ lev N (.not a) := by
      intro X sc E G e h
      unfold okE at h
      split at h
      · exact (pe_not ((sndE a).1 G _ h)).imp fun _ _ _ h => not_r h
      · cases h
    have hT : PTs T Γ lev N (.not a) := by
      intro X sc E G e h
      unfold okT at h
      split at h
      · exact (pt_not ((sndE a).2 G _ h)).imp fun _ _ _ h => notT_r (wa := fun δ S Q => dE Γ (Ex E δ) a δ S Q) h
      · cases h
    exact ⟨hE, hT⟩
  | .ite t a b => by
    have hE : PEs T Γ lev N (.ite t a b) := by
      intro X sc E G e h
      unfold okE at h
      split at h
      · obtain ⟨h, h3⟩ := a2 h
        obtain ⟨h1, h2⟩ := a2 h
        exact (pe_ifExp ((sndE t).2 G _ h1) ((sndE a).1 G _ h2) ((sndE b).1 G _ h3)).imp fun _ _ _ h => ite_r (wc := fun δ S Q => dE Γ (Ex E δ) t δ S Q) h
      · cases h
    exact ⟨hE, noT fun sc e => by unfold okT; rfl⟩
  | .tup es => by
    have hE : PEs T Γ lev N (.tup es) := by
      intro X sc E G e h
      unfold okE at h
      split at h
      · refine (pe_tup (sndA es G _ h)).imp fun σ H Q ⟨δ, S, Q0, s, hh, q, k⟩ => LA.mk s hh q fun xs S1 q1 vs H1 l r h1 => ?_
        exact ⟨by rw [← r.length]; exact q1.1, fun p hp => (Ct.mono k l).newT h1 hp r q1.2⟩
      · cases h
    exact ⟨hE, noT fun sc e => by unfold okT; rfl⟩
  | .lst es => by
    have hE : PEs T Γ lev N (.lst es) := by
      intro X sc E G e h
      unfold okE at h
      split at h
      · refine (pe_lst (sndA es G _ h)).imp fun σ H Q ⟨δ, S, Q0, s, hh, q, k⟩ => LA.mk s hh q fun xs S1 q1 vs H1 l r h1 => ?_
        exact ⟨by rw [← r.length]; exact q1.1, fun p hp => (Ct.mono k l).newL h1 hp r (q1.2 p)⟩
      · cases h
    exact ⟨hE, noT fun sc e => by unfold okT; rfl⟩
  | .ix a i => by
    have hE : PEs T Γ lev N (.ix a i) := by
      intro X sc E G e h
      unfold okE at h
      split at h
      · obtain ⟨h, h3⟩ := a2 h
        obtain ⟨h1, h2⟩ := a2 h
        exact (pe_ix ix_seq ((sndE a).1 G _ h2) ((sndE i).1 G _ h3) (plix h1)).imp fun _ _ _ h => LE.ix2 h
      · cases h
    exact ⟨hE, leafT (fun sc e ho => by cases e <;> first | (unfold okT at ho; cases ho; done) | exact ⟨by unfold okT at ho; unfold okE; exact ho, rfl⟩) hE⟩
  | .sl a lo hi => by
    have hE : PEs T Γ lev N (.sl a lo hi) := by
      intro X sc E G e h
      unfold okE at h
      split at h
      · obtain ⟨h, h3⟩ := a2 h
        obtain ⟨h1, h2⟩ := a2 h
        refine (pe_slice slAll ((sndE a).1 G _ h1) (sndO lo G _ h2) (sndO hi G _ h3)).imp fun σ H Q ⟨δ, S, Q0, s, hh, q, k⟩ => LE.mk s hh q fun x S1 q1 v H1 l r h1 => ?_
        refine ⟨δ, S1, _, s.mono l, h1, q1, fun o S2 q2 H2 l2 h2 => ⟨δ, S2, _, (s.mono l).mono l2, h2, q2, fun o2 S3 q3 H3 l3 h3 => ?_⟩⟩
        exact slO_r q3 ((r.mono l2).mono l3) h3 (Ct.mono k ((l.trans l2).trans l3))
      · cases h
    exact ⟨hE, noT fun sc e => by unfold okT; rfl⟩
  | .call f es => by
    have hE : PEs T Γ lev N (.call f es) := by
      intro X sc E G e h
      unfold okE at h
      split at h
      · split at h
        · rename_i hf
          obtain ⟨h, h4⟩ := a2 h
          obtain ⟨h, h3⟩ := a2 h
          obtain ⟨h1, h2⟩ := a2 h
          rw [of_decide_eq_true h1] at hf
          refine snd_call G hf (by simpa using h2) h3 (okA_all h4) (fun e => ?_) (sndA es G _ h4)
          subst e
          cases es with
          | nil => rfl
          | cons a b => unfold okA at h4; cases h4
        · cases h
      · cases h
    exact ⟨hE, leafT (fun sc e ho => by cases e <;> first | (unfold okT at ho; cases ho; done) | exact ⟨by unfold okT at ho; unfold okE; exact ho, rfl⟩) hE⟩
  | .new k es => by
    have hE : PEs T Γ lev N (.new k es) := by
      intro X sc E G e h
      unfold okE at h
      split at h
      · split at h
        · rename_i hf
          obtain ⟨h, h4⟩ := a2 h
          obtain ⟨h1, h2⟩ := a2 h
          rw [of_decide_eq_true h1] at hf
          exact snd_new G hf h2 (okA_all h4) (fun e => okA_nil (e ▸ h4)) (sndA es G _ h4)
        · cases h
      · cases h
    exact ⟨hE, noT fun sc e => by unfold okT; rfl⟩
  | .meth m o es => by
    have hE : PEs T Γ lev N (.meth m o es) := by
      intro X sc E G e h
      unfold okE at h
      split at h
      · obtain ⟨h, h6⟩ := a2 h
        obtain ⟨h, h5⟩ := a2 h
        obtain ⟨h, h4⟩ := a2 h
        obtain ⟨h, h3⟩ := a2 h
        obtain ⟨h1, h2⟩ := a2 h
        rw [of_decide_eq_true h1]
        exact snd_meth G ((sndE o).1 G _ h5) (okA_all h6) h2 h3 (of_decide_eq_true h4) (fun e => okA_nil (e ▸ h6)) (sndA es G _ h6)
      · cases h
    exact ⟨hE, leafT (fun sc e ho => by cases e <;> first | (unfold okT at ho; cases ho; done) | exact ⟨by unfold okT at ho; unfold okE; exact ho, rfl⟩) hE⟩
  | .fld o f => by
    have hE : PEs T Γ lev N (.fld o f) := by
      intro X sc E G e h
      unfold okE at h
      split at h
      · obtain ⟨h, h3⟩ := a2 h
        obtain ⟨h1, h2⟩ := a2 h
        rw [of_decide_eq_true h1]
        refine (pe_fld ((sndE o).1 G _ h3) (nosup h2 _)).imp fun σ H Q ⟨δ, S, Q0, s, hh, q, k⟩ => LE.mk s hh q fun x S1 q1 v H1 l r h1 => ?_
        split at q1
        · cases (show _ = _ from r)
          split at q1
          · rename_i C dx kk fs e
            obtain ⟨rfl, hk, q1⟩ := q1
            split at q1
            · rename_i d el
              obtain ⟨c, n⟩ := G.fk _ _ hk
              obtain ⟨gs, hH, hfr⟩ := h1 _ _ e
              obtain ⟨w, ew, rw'⟩ := hfr.lookup el
              exact ⟨_, _, dx, gs, w, rfl, hH, c, n, ew, (Ct.mono k l).same q1 rw' h1⟩
            · exact q1.elim
          · exact q1.elim
        · exact q1.elim
      · cases h
    exact ⟨hE, leafT (fun sc e ho => by cases e <;> first | (unfold okT at ho; cases ho; done) | exact ⟨by unfold okT at ho; unfold okE; exact ho, rfl⟩) hE⟩
  | .bi b es => by
    have hE : PEs T Γ lev N (.bi b es) := by
      intro X sc E G e h
      unfold okE at h
      split at h
      · obtain ⟨h, h5⟩ := a2 h
        obtain ⟨h, h4⟩ := a2 h
        obtain ⟨h, h3⟩ := a2 h
        obtain ⟨h1, h2⟩ := a2 h
        refine (bi_call G (of_decide_eq_true h1) h2 (of_decide_eq_true h3) (of_decide_eq_true h4) (okA_all h5) (sndA es G _ h5)).imp fun σ H Q ⟨δ, S, Q0, s, hh, q, k⟩ => LA.mk s hh q fun xs S1 q1 vs H1 l r h1 => ?_
        exact biO_r q1 r h1 (Ct.mono k l)
      · cases h
    exact ⟨hE, leafT (fun sc e ho => by cases e <;> first | (unfold okT at ho; cases ho; done) | exact ⟨by unfold okT at ho; unfold okE; exact ho, rfl⟩) hE⟩
  | .bm m o es => by
    have hE : PEs T Γ lev N (.bm m o es) := by
      intro X sc E G e h
      have M := mtOk (X := X) m
      unfold okE at h
      split at h
      · obtain ⟨h, h5⟩ := a2 h
        obtain ⟨h, h4⟩ := a2 h
        obtain ⟨h, h3⟩ := a2 h
        obtain ⟨h1, h2⟩ := a2 h
        rw [of_decide_eq_true h1]
        split at h5
        · refine (pe_bm0 M.pa M.slot M.hty M.hm ((sndE o).1 G _ h4) (nosup h2 _) h3).imp fun σ H Q ⟨δ, S, Q0, s, hh, q, k⟩ => LE.mk s hh q fun x S1 q1 v H1 l r h1 => ?_
          exact ⟨mtTy_r q1.1 r h1, mtO_r q1.2 r rfl h1 (Ct.mono k l)⟩
        · cases h5
      · obtain ⟨h, h6⟩ := a2 h
        obtain ⟨h, h5⟩ := a2 h
        obtain ⟨h, h4⟩ := a2 h
        obtain ⟨h, h3⟩ := a2 h
        obtain ⟨h1, h2⟩ := a2 h
        rw [of_decide_eq_true h1]
        have hs := okA_all h6
        rename_i y ys p
        have hs2 := all2 hs
        refine (pe_bm M.pa M.slot M.hty M.hm ((sndE o).1 G _ h5) (sndA es G _ h6) (nosup h2 _) ?_ h3 (star1 hs2.1) (stars hs2.2 _)).imp fun σ H Q ⟨δ, S, Q0, s, hh, q, k⟩ => LE.mk s hh q fun x S1 q1 v H1 l r h1 => ?_
        · rw [starsAll hs]
          refine Bool.and_eq_true_iff.mpr ⟨rfl, ?_⟩
          exact h4
        · refine ⟨mtTy_r q1.1 r h1, LA.mk (s.mono l) h1 q1.2 fun xs S2 q2 vs H2 l2 r2 h2 => ?_⟩
          exact mtO_r q2 (r.mono l2) r2 h2 (Ct.mono k (l.trans l2))
      · cases h
    exact ⟨hE, leafT (fun sc e ho => by cases e <;> first | (unfold okT at ho; cases ho; done) | exact ⟨by unfold okT at ho; unfold okE; exact ho, rfl⟩) hE⟩
  | .isi a t => by
    have hE : PEs T Γ lev N (.isi a t) := by
      intro X sc E G e h
      unfold okE at h
      split at h
      · obtain ⟨h, h6⟩ := a2 h
        obtain ⟨h, h5⟩ := a2 h
        obtain ⟨h, h4⟩ := a2 h
        obtain ⟨h, h3⟩ := a2 h
        obtain ⟨h1, h2⟩ := a2 h
        refine (isi_call G (of_decide_eq_true h1) h2 h3 h4 (of_decide_eq_true h5) ((sndE a).1 G _ h6)).imp fun σ H Q ⟨δ, S, Q0, s, hh, q, k⟩ => LE.mk s hh q fun x S1 q1 v H1 l r h1 => ?_
        exact isiO_r q1 r h1 fun b qb => (Ct.mono k l).bl h1 qb
      · cases h
    exact ⟨hE, leafT (fun sc e ho => by cases e <;> first | (unfold okT at ho; cases ho; done) | exact ⟨by unfold okT at ho; unfold okE; exact ho, rfl⟩) hE⟩
  | .lc w tg cs x own => by
    have hE : PEs T Γ lev N (.lc w tg cs x own) := by
      intro X sc E G e h
      unfold okE at h
      split at h
      · rename_i el t it ifs s2 pos
        obtain ⟨h, h5⟩ := a2 h
        obtain ⟨h, h4⟩ := a2 h
        obtain ⟨h, h3⟩ := a2 h
        obtain ⟨h1, h2⟩ := a2 h
        have ok : BlkOk X.N X.env.scope s2 own := blkOk_by (by rw [G.hN, G.hsc]; exact h1)
        have hW := sndW w G t it h2
        have hfold : ∀ x, foldedSetIterable it X.env x = pure x := fun x => hW.2 x
        refine (pe_lc (own := own) (g := rTg X.K tg) (tt := LT X.K fun δ S Q => dCs Γ (fun _ _ _ => False) cs δ S Q) (te := LE X.K fun δ S Q => dE Γ (fun _ _ _ => False) x δ S Q) G.calm (by rw [G.hN]; exact G.nd) hW.1 ok (fun s H C cl fp => (sndTg (G.blk s H s2 C cl fp) h3).1)
          (fun s H C cl fp => sndCs cs (G.blk s H s2 C cl fp) ifs h4) (fun s H C cl fp => (sndE x).1 (G.blk s H s2 C cl fp) el h5) hfold).imp fun σ H Q ⟨δ, S, Q0, s, hh, q, k⟩ => ?_
        refine ⟨δ, S, _, s, hh, q, fun ds Gd S1 q1 J H1 l h1 W D hD => ?_⟩
        have ht : ∀ i ∈ tgIx tg, i ∈ own.map (·.2) := okTg_own h3
        exact lc_r (s.mono l) h1 W ht hD (fun _ _ _ z => z) (fun _ _ _ z => z) (q1 D (h1.fresh hD)) (Ct.mono k l)
      · cases h
    exact ⟨hE, noT fun sc e => by unfold okT; rfl⟩
theorem sndA : ∀ (es : IEs) {X : Cx} {sc : Scope} {E : DXS}, GX T Γ lev N X sc E → ∀ xs : List Expr, okA T N sc es xs = true → PA X xs (LA X.K fun δ S Q => dA Γ (Ex E δ) es δ S Q)
  | .nil, X, sc, E, G, xs, h => by
    unfold okA at h
    split at h
    · exact pa_nil.imp fun σ H Q ⟨δ, S, Q0, s, hh, q, k⟩ => k _ _ q _ _ Lt.refl rfl hh
    · cases h
  | .cons i is, X, sc, E, G, xs, h => by
    unfold okA at h
    split at h
    · obtain ⟨h, h3⟩ := a2 h
      obtain ⟨h1, h2⟩ := a2 h
      refine (pa_cons ((sndE i).1 G _ h2) (sndA is G _ h3) (star1 h1)).imp fun σ H Q ⟨δ, S, Q0, s, hh, q, k⟩ => LE.mk s hh q fun x S1 q1 v H1 l r h1 => ?_
      exact LA.mk (s.mono l) h1 q1 fun xs S2 q2 vs H2 l2 r2 h2 => k _ _ q2 _ _ (l.trans l2) ⟨v, vs, rfl, r.mono l2, r2⟩ h2
    · cases h
theorem sndO : ∀ (o : IO) {X : Cx} {sc : Scope} {E : DXS}, GX T Γ lev N X sc E → ∀ e : Option Expr, okO T N sc o e = true → PO X e (LO X.K fun δ S Q => dO Γ (Ex E δ) o δ S Q)
  | .none, X, sc, E, G, e, h => by
    unfold okO at h
    split at h
    · exact PO.imp po_none fun σ H Q ⟨δ, S, Q0, s, hh, q, k⟩ => k _ _ q _ Lt.refl hh
    · cases h
  | .some i, X, sc, E, G, e, h => by
    unfold okO at h
    split at h
    · refine PO.imp (po_some ((sndE i).1 G _ h)) fun σ H Q ⟨δ, S, Q0, s, hh, q, k⟩ => LE.mk s hh q fun x S1 q1 v H1 l r h1 => ?_
      split at q1
      · cases (show _ = _ from r); exact ⟨_, rfl, k _ _ q1 _ l h1⟩
      · exact q1.elim
    · cases h
theorem sndW : ∀ (w : IW) {X : Cx} {sc : Scope} {E : DXS}, GX T Γ lev N X sc E → ∀ (tg e : Expr), okW T N sc w e = true → PI X tg e (LI X.K fun δ S P => dW Γ (Ex E δ) w δ S P) ∧ ∀ x, foldedSetIterable e X.env x = pure x
  | .seq i, X, sc, E, G, tg, e, h => by
    unfold okW at h
    obtain ⟨h1, h2⟩ := a2 h
    refine ⟨(pi_seq ((sndE i).1 G _ h2)).imp fun σ H Q ⟨δ, S, P, s, hh, q, k⟩ => LE.mk s hh q fun x S1 q1 v H1 l r h1 => ?_, nofold h1⟩
    exact seqO_r q1 r h1 fun ds Gd qd J W => k ds Gd S1 qd J H1 l h1 W
  | .rng1 a, X, sc, E, G, tg, e, h => by
    unfold okW at h
    split at h
    · obtain ⟨h, h4⟩ := a2 h
      obtain ⟨h, h3⟩ := a2 h
      obtain ⟨h1, h2⟩ := a2 h
      obtain ⟨g1, g2⟩ := G.gl h2
      cases of_decide_eq_true h1
      refine ⟨(pi_range1 g1 (G.bl _ (by decide)) (pa_cons ((sndE a).1 G _ h4) pa_nil (star1 h3)) (star1 h3)).imp fun σ H Q ⟨δ, S, P, s, hh, q, k⟩ => LE.mk s hh q fun x S1 q1 v H1 l r h1 => ?_, fun x => rfl⟩
      split at q1
      · cases (show _ = _ from r)
        exact ⟨_, rfl, q1.1, q1.2.1, k _ _ _ q1.2.2 _ _ l h1 (wk_rng _ _ _)⟩
      · exact q1.elim
    · cases h
  | .rng2 a b, X, sc, E, G, tg, e, h => by
    unfold okW at h
    split at h
    · obtain ⟨h, h6⟩ := a2 h
      obtain ⟨h, h5⟩ := a2 h
      obtain ⟨h, h4⟩ := a2 h
      obtain ⟨h, h3⟩ := a2 h
      obtain ⟨h1, h2⟩ := a2 h
      obtain ⟨g1, g2⟩ := G.gl h2
      cases of_decide_eq_true h1
      refine ⟨(pi_range2 g1 (G.bl _ (by decide)) (pa_cons ((sndE a).1 G _ h5) (pa_cons ((sndE b).1 G _ h6) pa_nil (star1 h4)) (star1 h3)) (by rw [star1 h3, star1 h4] <;> rfl) (star1 h4)).imp fun σ H Q ⟨δ, S, P, s, hh, q, k⟩ => LE.mk s hh q fun x S1 q1 v H1 l r h1 => LE.mk (s.mono l) h1 q1 fun y S2 q2 u H2 l2 r2 h2 => ?_, fun x => rfl⟩
      split at q2
      · cases (show _ = _ from r); cases (show _ = _ from r2)
        exact ⟨_, _, rfl, q2.1, k _ _ _ q2.2 _ _ (l.trans l2) h2 (wk_rng _ _ _)⟩
      · exact q2.elim
    · cases h
theorem sndCs : ∀ (es : IEs) {X : Cx} {sc : Scope} {E : DXS}, GX T Γ lev N X sc E → ∀ xs : List Expr, okCs T N sc es xs = true → PTs' X xs (LT X.K fun δ S Q => dCs Γ (Ex E δ) es δ S Q)
  | .nil, X, sc, E, G, xs, h => by
    unfold okCs at h
    split at h
    · exact PTs'.imp pts_nil fun σ H Q ⟨δ, S, Q0, s, hh, q, k⟩ => k _ _ q _ Lt.refl hh
    · cases h
  | .cons i .nil, X, sc, E, G, xs, h => by
    unfold okCs at h
    split at h
    · exact pts_one ((sndE i).2 G _ h)
    · cases h
  | .cons i (.cons j k), X, sc, E, G, xs, h => by
    unfold okCs at h
    cases h
end
end
end Z
namespace Z
open PySem PySem.Spec PyProof.Rows L2
/-- a name of the def that may be stored: local, or a cell -/
def stoB (sc : Scope) (x : Str) : Bool := match sc.names.lookup x with
  | some .local => true
  | some .cell => true
  | _ => false
/-- stores that are not swapped -/
def swB (ts : List Expr) : Expr → Bool
  | .Tuple vs _ _ => !(ts.length == 2 || ts.length == 3) || vs.all (foldedForSure 8)
  | _ => true
theorem sw_none {ts : List Expr} {e : Expr} {env : Env} {k : Nat} {p : Pos} (h : swB ts e = true) : swappedStores [.Tuple ts k p] e env = pure none := by
  unfold swappedStores
  cases e with
  | Tuple vs a b =>
    have h' : (!(ts.length == 2 || ts.length == 3) || vs.all (foldedForSure 8)) = true := h
    simp only
    by_cases h1 : (!(ts.length == 2 || ts.length == 3)) = true
    · rw [h1]
      rfl
    · have h2 : vs.all (foldedForSure 8) = true := by
        cases q : vs.all (foldedForSure 8) with
        | true => rfl
        | false => rw [q, Bool.or_false] at h'; exact absurd h' h1
      rw [h2]
      split
      · rfl
      · split
        · rfl
        · split
          · rfl
          · rfl
  | _ => rfl
theorem nstar_m {a : Expr} (h : nStar a = true) : (match (generalizing := false) a with | .Starred .. => true | _ => false) = false := by
  cases a <;> first | rfl | cases h
/-- two stores that are swapped -/
def parB (sc : Scope) (x y : Str) (px py : Pos) (a b : Expr) : Bool :=
  (match sc.kind with | .function => true | _ => false) && nStar a && nStar b && (py.line == px.line) && decide (x ≠ y) && locB sc x && locB sc y && !([a, b].all (foldedForSure 8)) && !([a, b].all (constantsAlone 8))
theorem par_some {sc : Scope} {x y : Str} {px py pt pt2 : Pos} {a b : Expr} {k k2 : Nat} {env : Env} (hsc : env.scope = sc) (h : parB sc x y px py a b = true) :
    swappedStores [.Tuple [.Name x px, .Name y py] k pt] (.Tuple [a, b] k2 pt2) env = pure (some [x, y]) := by
  unfold parB at h
  obtain ⟨h, h9⟩ := a2 h
  obtain ⟨h, h8⟩ := a2 h
  obtain ⟨h, h7⟩ := a2 h
  obtain ⟨h, h6⟩ := a2 h
  obtain ⟨h, h5⟩ := a2 h
  obtain ⟨h, h4⟩ := a2 h
  obtain ⟨h, h3⟩ := a2 h
  obtain ⟨h1, h2⟩ := a2 h
  have lk : ∀ z, locB sc z = true → env.kindOf z = some .local := fun z hz => by
    show env.scope.names.lookup z = _
    rw [hsc]
    unfold locB at hz
    split at hz <;> first | assumption | cases hz
  have bk : env.blockKind = .function := by
    have ek : env.scope.kind = .function := by
      rw [hsc]
      split at h1 <;> first | assumption | cases h1
    unfold Env.blockKind
    rw [ek]
    rfl
  have hne : ¬ x = y := of_decide_eq_true h5
  unfold swappedStores
  simp only [bk, List.any_cons, List.any_nil]
  have n1 := nstar_m h2
  have n2 := nstar_m h3
  simp only [n1, n2, List.filterMap_cons, List.filterMap_nil, lk x h6, lk y h7, List.head?_cons, Option.map_some, Option.getD_some, Expr.pos, h4]
  have e8 : ([a, b].all (foldedForSure 8)) = false := (Bool.not_eq_true' _).mp h8
  have e9 : ([a, b].all (constantsAlone 8)) = false := (Bool.not_eq_true' _).mp h9
  rw [e8, e9]
  have ed : ([x, y] : List Str).eraseDups = [x, y] := by
    simp [List.eraseDups_cons, hne, Ne.symm hne]
  simp [ed]
  intro q
  exfalso
  rcases q with q | q
  · exact Bool.false_ne_true (n1.symm.trans q)
  · exact Bool.false_ne_true (n2.symm.trans q)
section
variable (T : Tb) (N : List Str)
def okTfs (sc : Scope) : List Nat → List Expr → Bool
  | [], es => match es with
    | [] => true
    | _ => false
  | i :: is, es => match es with
    | .Name x _ :: es => decide (N[i]? = some x) && stoB sc x && okTfs sc is es
    | _ => false
def okTf (sc : Scope) : IT → Expr → Bool
  | .n i, e => match e with
    | .Name x _ => decide (N[i]? = some x) && stoB sc x
    | _ => false
  | .t is, e => match e with
    | .Tuple es _ _ => okTfs N sc is es
    | _ => false
mutual
def okS (sc : Scope) : IS → Stmt → Bool
  | .setv i a, st => match st with
    | .Assign [.Name x _] e _ => decide (N[i]? = some x) && stoB sc x && nComp e && okE T N sc a e
    | _ => false
  | .setlc i a, st => match a, st with
    | .lc w tg cs x own, .Assign [.Name y py] (.ListComp el [⟨t, it, ifs, 0⟩] s2 p) _ => decide (N[i]? = some y) && locB sc y && (match sc.kind with | .function => true | _ => false) && (py.line == p.line) && !(s2.names.any fun (n, k) => n == y && (k == .local || k == .cell)) &&
        blkC N sc s2 own && okW T N sc w it && okTg T N own (relS s2 sc) tg t && okCs T N (relS s2 sc) cs ifs && okE T N (relS s2 sc) x el
    | _, _ => false
  | .sett is a, st => match st with
    | .Assign [.Tuple ts _ _] e _ => okTfs N sc is ts && nComp e && swB ts e && okE T N sc a e
    | _ => false
  | .par i j a b, st => match st with
    | .Assign [.Tuple [.Name x px, .Name y py] _ _] (.Tuple [e, f] _ _) _ => decide (N[i]? = some x) && decide (N[j]? = some y) && parB sc x y px py e f && okE T N sc a e && okE T N sc b f
    | _ => false
  | .sets o i a, st => match st with
    | .Assign [.Subscript x y _] e _ => nSlc y && nComp e && okE T N sc o x && okE T N sc i y && okE T N sc a e
    | _ => false
  | .setf o f a, st => match st with
    | .Assign [.Attribute x n _] e _ => decide (n = f) && nComp e && okE T N sc o x && okE T N sc a e
    | _ => false
  | .augf o f op a, st => match st with
    | .AugAssign (.Attribute x n _) p e _ => decide (n = f) && okB2 op p && (match op with | .add => true | .sub => true | _ => false) && okE T N sc o x && okE T N sc a e
    | _ => false
  | .expr a, st => match st with
    | .Expr e _ => nComp e && okE T N sc a e
    | _ => false
  | .ret a, st => match st with
    | .Return (some e) _ => okE T N sc a e
    | _ => false
  | .retN, st => match st with
    | .Return none _ => true
    | _ => false
  | .ifs t a b, st => match st with
    | .If e xs ys _ => okT T N sc t e && okB sc a xs && okB sc b ys
    | _ => false
  | .for_ w t b, st => match st with
    | .For tg it xs [] _ => okW T N sc w it && okTf N sc t tg && okB sc b xs
    | _ => false
  | .while_ t b, st => match st with
    | .While e xs [] _ => okT T N sc t e && okB sc b xs
    | _ => false
  | .pass, st => match st with
    | .Pass _ => true
    | _ => false
  | .brk, st => match st with
    | .Break _ => true
    | _ => false
  | .cont, st => match st with
    | .Continue _ => true
    | _ => false
def okB (sc : Scope) : IB → List Stmt → Bool
  | .nil, xs => match xs with
    | [] => true
    | _ => false
  | .cons s b, xs => match xs with
    | x :: xs => okS sc s x && okB sc b xs
    | _ => false
end
end
/-- within a def's body -/
structure GS (T : Tb) (Γ : Gm) (lev : Nat) (N : List Str) (X : Cx) (sc : Scope) (E : DXS) : Prop extends GX T Γ lev N X sc E where
  hs : X.stack = X.env :: X.outer
  hf : X.env.frame = some X.env.locals
  hp : PassesOwn (model X.prog X.w) X.A X.env X.xe
  hfn : ∀ x, X.fn x = true
structure Cn (K : PySem.W.Frag) (H : Hp) (D0 : DEnds) (D : Ends) : Prop where
  nx : ∀ δ S, D0.nx δ S → ∀ σ H', Lt K H H' → SR K H' δ σ → HR K H' S → D.nx σ H'
  rt : Ct K H D0.rt D.rt
  bk : ∀ δ S, D0.bk δ S → ∀ σ H', Lt K H H' → SR K H' δ σ → HR K H' S → D.bk σ H'
  ct : ∀ δ S, D0.ct δ S → ∀ σ H', Lt K H H' → SR K H' δ σ → HR K H' S → D.ct σ H'
theorem Cn.mono {K : PySem.W.Frag} {H H' : Hp} {D0 : DEnds} {D : Ends} (c : Cn K H D0 D) (l : Lt K H H') : Cn K H' D0 D :=
  ⟨fun δ S q σ H2 l2 => c.nx δ S q σ H2 (l.trans l2), Ct.mono c.rt l, fun δ S q σ H2 l2 => c.bk δ S q σ H2 (l.trans l2), fun δ S q σ H2 l2 => c.ct δ S q σ H2 (l.trans l2)⟩
def LS (K : PySem.W.Frag) (w : DEnds → Env' → Sto → Prop) : TS := fun D σ H => ∃ δ S D0, SR K H δ σ ∧ HR K H S ∧ w D0 δ S ∧ Cn K H D0 D
section
variable {K : PySem.W.Frag} {H : Hp} {δ : Env'} {σ : L2.St} {S : Sto} {D0 : DEnds} {D' : Ends}
theorem LS.mk {w : DEnds → Env' → Sto → Prop} (s : SR K H δ σ) (h : HR K H S) (q : w D0 δ S) (c : Cn K H D0 D') : LS K w D' σ H := ⟨δ, S, D0, s, h, q, c⟩
theorem tgF_r {t : IT} {x : D} {v : V} {k : Env' → Prop} {Q : L2.St → Hp → Prop} (q : tgO t x δ k) (r : Rep K H x v) (s : SR K H δ σ) (c : ∀ δ' σ', k δ' → SR K H δ' σ' → Q σ' H) : rTg K t v σ H Q :=
  tgO_r q r s fun δ' σ' kq s' _ => c δ' σ' kq s'
/-- a for over what J walks -/
theorem for_r {J : It} {ds : List D} {G : Sto → Prop} {t : IT} {tb : TS} {w : DEnds → Env' → Sto → Prop} (s : SR K H δ σ) (hh : HR K H S) (W : Wk K H J ds G) (htb : ∀ D σ H, LS K w D σ H → tb D σ H)
    (q : forL G (fun d k δ1 S2 => tgO t d δ1 fun δ2 => w { D0 with nx := k, ct := k, bk := D0.nx } δ2 S2) D0.nx ds δ S) (c : Cn K H D0 D') :
    ∃ W : Nat → Nat → L2.St → Hp → Prop, (∃ m, W 0 m σ H) ∧ ∀ i m σ H, W i m σ H →
      (J.stop i H ∧ D'.nx σ H) ∨ (J.go i H ∧ ∃ N : L2.St → Hp → Prop, (∀ σ' H', N σ' H' → ∃ m', m' < m ∧ W (i + 1) m' σ' H') ∧ ∀ x H', J.yld i H x H' → rTg K t x σ H' fun σ2 H2 => tb { D' with nx := N, ct := N, bk := D'.nx } σ2 H2) := by
  let P : Nat → L2.St → Hp → Prop := fun i σ1 H1 => i ≤ ds.length ∧ Lt K H H1 ∧ ∃ δ1 S1, SR K H1 δ1 σ1 ∧ HR K H1 S1 ∧ forL G (fun d k δ1 S2 => tgO t d δ1 fun δ2 => w { D0 with nx := k, ct := k, bk := D0.nx } δ2 S2) D0.nx (ds.drop i) δ1 S1
  refine ⟨fun i m σ1 H1 => m = ds.length - i ∧ P i σ1 H1, ⟨ds.length, rfl, Nat.zero_le _, Lt.refl, δ, S, s, hh, q⟩, ?_⟩
  rintro i m σ1 H1 ⟨rfl, hi, l, δ1, S1, s1, h1, q⟩
  by_cases hlt : i < ds.length
  · have e : ds.drop i = ds[i] :: ds.drop (i + 1) := List.drop_eq_getElem_cons hlt
    rw [e] at q
    obtain ⟨g, q⟩ := q
    refine .inr ⟨W.go i H1 S1 l h1 g hlt, P (i + 1), fun σ' H' p => ⟨ds.length - (i + 1), by omega, rfl, p⟩, fun x H' y => ?_⟩
    obtain ⟨l1, h2, r1⟩ := W.yld i H1 S1 ds[i] l h1 g (List.getElem?_eq_getElem hlt) x H' y
    refine tgF_r q r1 (s1.mono l1) fun δ2 σ2 q2 s2 => htb _ _ _ (LS.mk s2 h2 q2 ?_)
    have c2 := c.mono (l.trans l1)
    have cn : ∀ δ S, (∃ T, Sub T S ∧ forL G (fun d k δ1 S2 => tgO t d δ1 fun δ2 => w { D0 with nx := k, ct := k, bk := D0.nx } δ2 S2) D0.nx (ds.drop (i + 1)) δ T) → ∀ σ H2, Lt K H' H2 → SR K H2 δ σ → HR K H2 S → P (i + 1) σ H2 :=
      fun δ3 S3 ⟨T, sb, q3⟩ σ3 H3 l3 s3 h3 => ⟨hlt, (l.trans l1).trans l3, δ3, T, s3, h3.sub sb, q3⟩
    exact ⟨cn, c2.rt, c2.nx, cn⟩
  · have e : i = ds.length := by omega
    subst e
    rw [List.drop_length] at q
    exact .inl ⟨W.stop _ H1 S1 l h1 q.1 (Nat.le_refl _), c.nx _ _ q.2 _ _ l s1 h1⟩
/-- a while -/
theorem while_r {tt : TT} {tb : TS} {wt : Env' → Sto → DK → Prop} {w : DEnds → Env' → Sto → Prop} {n : Nat} (s : SR K H δ σ) (hh : HR K H S) (htt : ∀ σ H Q, LT K (fun δ S Q => wt δ S (asB Q)) σ H Q → tt σ H Q) (htb : ∀ D σ H, LS K w D σ H → tb D σ H)
    (q : whL wt (fun k δ1 S2 => w { D0 with nx := k, ct := k, bk := D0.nx } δ1 S2) D0.nx n δ S) (c : Cn K H D0 D') : tWhile tt tb D' σ H := by
  let P : Nat → L2.St → Hp → Prop := fun m σ1 H1 => Lt K H H1 ∧ ∃ δ1 S1, SR K H1 δ1 σ1 ∧ HR K H1 S1 ∧ whL wt (fun k δ1 S2 => w { D0 with nx := k, ct := k, bk := D0.nx } δ1 S2) D0.nx m δ1 S1
  refine ⟨P, ⟨n, Lt.refl, δ, S, s, hh, q⟩, ?_⟩
  rintro m σ1 H1 ⟨l, δ1, S1, s1, h1, q⟩
  cases m with
  | zero => exact q.elim
  | succ m =>
    have e : (asB fun k S1 => match k with
        | true => w { D0 with nx := fun δ' S' => ∃ T, Sub T S' ∧ whL wt (fun k δ1 S2 => w { D0 with nx := k, ct := k, bk := D0.nx } δ1 S2) D0.nx m δ' T, ct := fun δ' S' => ∃ T, Sub T S' ∧ whL wt (fun k δ1 S2 => w { D0 with nx := k, ct := k, bk := D0.nx } δ1 S2) D0.nx m δ' T, bk := D0.nx } δ1 S1
        | false => D0.nx δ1 S1) = fun x S1 => match x with
      | .bl true => w { D0 with nx := fun δ' S' => ∃ T, Sub T S' ∧ whL wt (fun k δ1 S2 => w { D0 with nx := k, ct := k, bk := D0.nx } δ1 S2) D0.nx m δ' T, ct := fun δ' S' => ∃ T, Sub T S' ∧ whL wt (fun k δ1 S2 => w { D0 with nx := k, ct := k, bk := D0.nx } δ1 S2) D0.nx m δ' T, bk := D0.nx } δ1 S1
      | .bl false => D0.nx δ1 S1
      | _ => False := by
      funext x S1
      cases x with
      | bl k => cases k <;> rfl
      | _ => rfl
    have q' := Eq.mpr (congrArg (wt δ1 S1) e) q
    refine htt _ _ _ ⟨δ1, S1, _, s1, h1, q', fun b S2 q2 H2 l2 h2 => ?_⟩
    have c2 := c.mono (l.trans l2)
    cases b with
    | true =>
      dsimp only
      rw [if_pos rfl]
      have cn : ∀ δ S, (∃ T, Sub T S ∧ whL wt (fun k δ1 S2 => w { D0 with nx := k, ct := k, bk := D0.nx } δ1 S2) D0.nx m δ T) → ∀ σ H3, Lt K H2 H3 → SR K H3 δ σ → HR K H3 S → P m σ H3 :=
        fun δ3 S3 ⟨T, sb, q3⟩ σ3 H3 l3 s3 h3 => ⟨(l.trans l2).trans l3, δ3, T, s3, h3.sub sb, q3⟩
      exact ⟨P m, fun σ' H' p => ⟨m, Nat.lt_succ_self m, p⟩, htb _ _ _ (LS.mk (s1.mono l2) h2 q2 ⟨cn, c2.rt, c2.nx, cn⟩)⟩
    | false =>
      dsimp only
      rw [if_neg Bool.false_ne_true]
      exact c2.nx _ _ q2 _ _ Lt.refl (s1.mono l2) h2
end
section
variable {T : Tb} {Γ : Gm} {lev : Nat} {N : List Str} {X : Cx} {sc : Scope} {E : DXS}
theorem GS.sto (G : GS T Γ lev N X sc E) {x : Str} (h : stoB sc x = true) : Loc X.env.scope x := by
  rw [G.hsc]
  unfold stoB at h
  split at h <;> first | exact .inl (by assumption) | exact .inr (by assumption) | cases h
theorem sndTfs (G : GS T Γ lev N X sc E) : ∀ {is : List Nat} {es : List Expr}, okTfs N sc is es = true → PGs X es (rTgs is) ∧ (assignEach es X.env).length = is.length ∧ (assignEach es X.env).findIdx? (·.1) = none
  | [], es, h => by
    unfold okTfs at h
    split at h
    · exact ⟨pgs_nil, rfl, rfl⟩
    · cases h
  | i :: is, es, h => by
    unfold okTfs at h
    split at h
    · obtain ⟨h, h4⟩ := a2 h
      obtain ⟨h1, h2⟩ := a2 h
      obtain ⟨p1, p2, p3⟩ := sndTfs G h4
      refine ⟨pgs_cons (pg_name (by rw [G.hN]; exact G.nd) (by rw [G.hN]; exact of_decide_eq_true h1) (G.sto h2) (.inl (G.hfn _))) p1, ?_, ?_⟩
      · show (assignEach _ X.env).length + 1 = _
        rw [p2] <;> rfl
      · show List.findIdx? (·.1) ((false, _) :: assignEach _ X.env) = none
        rw [List.findIdx?_cons]
        simp [p3]
    · cases h
theorem sndTf (G : GS T Γ lev N X sc E) {t : IT} {e : Expr} (h : okTf N sc t e = true) : PG X e (rTg X.K t) := by
  cases t with
  | n i =>
    unfold okTf at h
    dsimp only at h
    split at h
    · obtain ⟨h1, h2⟩ := a2 h
      exact pg_name (by rw [G.hN]; exact G.nd) (by rw [G.hN]; exact of_decide_eq_true h1) (G.sto h2) (.inl (G.hfn _))
    · cases h
  | t is =>
    unfold okTf at h
    dsimp only at h
    split at h
    · obtain ⟨p1, p2, p3⟩ := sndTfs G h
      exact pg_tup G.calm p1 p2 p3
    · cases h
theorem sub_form {o i : Expr} {pos : Pos} {env : Env} (h : nSlc i = true) (v : Value) : assign (.Subscript o i pos) env v = (do
      let ov ← holding [v] (eval o env)
      let iv ← holding [v, ov] (eval i env)
      standAt pos
      holding [v, ov, iv] (setItem ov iv v)
      release [v, ov, iv] []) := by
  cases i <;> first | rfl | cases h
end
end Z
namespace Z
open PySem PySem.Spec PyProof.Rows L2
section
variable {T : Tb} {Γ : Gm} {lev : Nat} {N : List Str}
theorem in_b2 {X : Cx} {op : B2} (h : (match op with | .add => true | .sub => true | _ => false) = true) : InOp X op.op (fun x y H Q => ∃ i j, x = .int i ∧ y = .int j ∧ (match op with | .add => Q (.int (i + j)) H | .sub => Q (.int (i - j)) H | _ => False)) := by
  cases op <;> first
    | exact in_add
    | exact in_sub
    | cases h
theorem noswap_sole {e t : Expr} {l : Nat} {env : Env} (h : nComp e = true) : swapsWithSole [t] e l env = pure false := noswap h _ _
mutual
theorem sndS : ∀ (i : IS) {X : Cx} {sc : Scope} {E : DXS}, GS T Γ lev N X sc E → ∀ st : Stmt, okS T N sc i st = true → PS X st (LS X.K fun D δ S => dS Γ E i D δ S)
  | .setv i a, X, sc, E, G, st, h => by
    unfold okS at h
    split at h
    · obtain ⟨h, h4⟩ := a2 h
      obtain ⟨h, h3⟩ := a2 h
      obtain ⟨h1, h2⟩ := a2 h
      refine (ps_set (i := i) (by rw [G.hN]; exact G.nd) (by rw [G.hN]; exact of_decide_eq_true h1) (G.sto h2) ((sndE a).1 G.toGX _ h4) (noswap h3 _ _) (.inl (G.hfn _))).imp fun D σ H ⟨δ, S, D0, s, hh, q, c⟩ => LE.mk s hh q fun x S1 q1 v H1 l r h1 => ?_
      exact c.nx _ _ q1 _ _ l ((s.mono l).set r i) h1
    · cases h
  | .setlc i a, X, sc, E, G, st, h => by
    unfold okS at h
    split at h
    · rename_i w tg cs x own y py el t it ifs s2 p spos
      obtain ⟨h, h10⟩ := a2 h
      obtain ⟨h, h9⟩ := a2 h
      obtain ⟨h, h8⟩ := a2 h
      obtain ⟨h, h7⟩ := a2 h
      obtain ⟨h, h6⟩ := a2 h
      obtain ⟨h, h5⟩ := a2 h
      obtain ⟨h, h4⟩ := a2 h
      obtain ⟨h, h3⟩ := a2 h
      obtain ⟨h1, h2⟩ := a2 h
      have ok : BlkOk X.N X.env.scope s2 own := blkOk_by (by rw [G.hN, G.hsc]; exact h6)
      have hW := sndW w G.toGX t it h7
      have hyl := G.loc h2
      have hk : X.env.scope.kind = .function := by
        rw [G.hsc]
        split at h3 <;> first | assumption | cases h3
      have e5 : (s2.names.any fun (n, k) => n == y && (k == .local || k == .cell)) = false := (Bool.not_eq_true' _).mp h5
      refine (ps_setLc (i := i) (own := own) (g := rTg X.K tg) (tt := LT X.K fun δ S Q => dCs Γ (fun _ _ _ => False) cs δ S Q) (te := LE X.K fun δ S Q => dE Γ (fun _ _ _ => False) x δ S Q) G.calm (by rw [G.hN]; exact G.nd) (by rw [G.hN]; exact of_decide_eq_true h1) hyl
        (sw_true hk hyl h4 e5) hW.1 ok (fun s H C cl fp => (sndTg (G.toGX.blk s H s2 C cl fp) h8).1) (fun s H C cl fp => sndCs cs (G.toGX.blk s H s2 C cl fp) ifs h9) (fun s H C cl fp => (sndE x).1 (G.toGX.blk s H s2 C cl fp) el h10) (fun z => hW.2 z)).imp fun D σ H ⟨δ, S, D0, s, hh, q, c⟩ => ?_
      refine ⟨δ, S, _, s, hh, q, fun ds Gd S1 q1 J H1 l h1 W D1 hD => ?_⟩
      have ht : ∀ i ∈ tgIx tg, i ∈ own.map (·.2) := okTg_own h8
      exact lc_r (Q := fun v H' => D.nx (σ.set i (some v)) H') (s.mono l) h1 W ht hD (fun _ _ _ z => z) (fun _ _ _ z => z) (q1 D1 (h1.fresh hD)) fun d S' qd v H' l2 r2 h2 => c.nx _ _ qd _ _ (l.trans l2) ((s.mono (l.trans l2)).set r2 i) h2
    · cases h
  | .sett is a, X, sc, E, G, st, h => by
    unfold okS at h
    split at h
    · obtain ⟨h, h4⟩ := a2 h
      obtain ⟨h, h3⟩ := a2 h
      obtain ⟨h1, h2⟩ := a2 h
      obtain ⟨p1, p2, p3⟩ := sndTfs G h1
      refine (ps_asg (g := rTg X.K (.t is)) ((sndE a).1 G.toGX _ h4) (pg_tup G.calm p1 p2 p3) (noswap_sole h2) (sw_none h3) (by rfl)).imp fun D σ H ⟨δ, S, D0, s, hh, q, c⟩ => LE.mk s hh q fun x S1 q1 v H1 l r h1 => ?_
      exact tgF_r q1 r (s.mono l) fun δ' σ' kq s' => c.nx _ _ kq _ _ l s' h1
    · cases h
  | .par i j a b, X, sc, E, G, st, h => by
    unfold okS at h
    split at h
    · obtain ⟨h, h5⟩ := a2 h
      obtain ⟨h, h4⟩ := a2 h
      obtain ⟨h, h3⟩ := a2 h
      obtain ⟨h1, h2⟩ := a2 h
      have hp := h3
      unfold parB at hp
      obtain ⟨hp, p9⟩ := a2 hp
      obtain ⟨hp, p8⟩ := a2 hp
      obtain ⟨hp, p7⟩ := a2 hp
      obtain ⟨hp, p6⟩ := a2 hp
      obtain ⟨hp, p5⟩ := a2 hp
      obtain ⟨hp, p4⟩ := a2 hp
      obtain ⟨hp, p3⟩ := a2 hp
      have i1 : N[i]? = some _ := of_decide_eq_true h1
      have i2 : N[j]? = some _ := of_decide_eq_true h2
      have ne : i ≠ j := fun e => by
        rw [e, i2] at i1
        exact of_decide_eq_true p5 (Option.some.inj i1).symm
      refine (ps_par G.calm (by rw [G.hN]; exact G.nd) (by rw [G.hN]; exact i1) (by rw [G.hN]; exact i2) ne (G.loc p6) (G.loc p7) (pa_cons ((sndE a).1 G.toGX _ h4) (pa_cons ((sndE b).1 G.toGX _ h5) pa_nil (star1 p3)) (star1 (a2 hp).2)) (par_some G.hsc h3) (by rfl)).imp
        fun D σ H ⟨δ, S, D0, s, hh, q, c⟩ => LE.mk s hh q fun x S1 q1 v H1 l r h1 => LE.mk (s.mono l) h1 q1 fun y S2 q2 u H2 l2 r2 h2 => ?_
      exact ⟨v, u, rfl, c.nx _ _ q2 _ _ (l.trans l2) (((s.mono (l.trans l2)).set (r.mono l2) i).set r2 j) h2⟩
    · cases h
  | .sets o i a, X, sc, E, G, st, h => by
    unfold okS at h
    split at h
    · obtain ⟨h, h5⟩ := a2 h
      obtain ⟨h, h4⟩ := a2 h
      obtain ⟨h, h3⟩ := a2 h
      obtain ⟨h1, h2⟩ := a2 h
      refine (ps_asg ((sndE a).1 G.toGX _ h5) (pg_sub ((sndE o).1 G.toGX _ h3) ((sndE i).1 G.toGX _ h4) set_list (sub_form h1)) (noswap_sole h2) (by rfl) (by rfl)).imp fun D σ H ⟨δ, S, D0, s, hh, q, c⟩ => LE.mk s hh q fun z S1 q1 w H1 l1 r1 h1 => ?_
      refine LE.mk (s.mono l1) h1 q1 fun x S2 q2 v H2 l2 r2 h2 => LE.mk ((s.mono l1).mono l2) h2 q2 fun y S3 q3 u H3 l3 r3 h3 => ?_
      split at q3
      · cases (show _ = _ from r2); cases (show _ = _ from r3)
        obtain ⟨xs, j, e, hj, q3⟩ := q3
        obtain ⟨vs, hv, rv⟩ := h3.lst e
        refine ⟨_, vs, _, j, rfl, rfl, hv, by rw [← rv.length]; exact hj, ?_⟩
        have l4 : Lt X.K H3 (upd H3 _ (.lst (vs.set j w))) := Lt.lstO hv
        exact c.nx _ _ q3 _ _ (((l1.trans l2).trans l3).trans l4) (s.mono (((l1.trans l2).trans l3).trans l4)) (h3.putO (o := .lst (xs.set j z)) l4 ⟨_, upd_same, (rv.set ((r1.mono l2).mono l3) j).mono l4⟩)
      · exact q3.elim
    · cases h
  | .setf o f a, X, sc, E, G, st, h => by
    unfold okS at h
    split at h
    · obtain ⟨h, h4⟩ := a2 h
      obtain ⟨h, h3⟩ := a2 h
      obtain ⟨h1, h2⟩ := a2 h
      rw [of_decide_eq_true h1]
      refine (ps_fld ((sndE o).1 G.toGX _ h3) ((sndE a).1 G.toGX _ h4) (noswap h2 _ _)).imp fun D σ H ⟨δ, S, D0, s, hh, q, c⟩ => LE.mk s hh q fun z S1 q1 w H1 l1 r1 h1 => LE.mk (s.mono l1) h1 q1 fun x S2 q2 v H2 l2 r2 h2 => ?_
      split at q2
      · rename_i ad
        cases (show _ = _ from r2)
        split at q2
        · rename_i C dx k fs e
          obtain ⟨rfl, hk, hl, q2⟩ := q2
          obtain ⟨cl, n⟩ := G.fk _ _ hk
          obtain ⟨gs, hH, hfr⟩ := h2 _ _ e
          refine ⟨ad, _, dx, gs, rfl, hH, cl, n, by rw [← hfr.length]; exact hl, ?_⟩
          have l3 : Lt X.K H2 (upd H2 ad (.ins (Γ.cls k) dx (putF f w gs))) := Lt.insO hH
          exact c.nx _ _ q2 _ _ ((l1.trans l2).trans l3) (s.mono ((l1.trans l2).trans l3)) (h2.putO (o := .ins (Γ.cls k) dx k (putD f z fs)) l3 ⟨_, upd_same, (hfr.putF (r1.mono l2)).mono l3⟩)
        · exact q2.elim
      · exact q2.elim
    · cases h
  | .augf o f op a, X, sc, E, G, st, h => by
    unfold okS at h
    split at h
    · obtain ⟨h, h5⟩ := a2 h
      obtain ⟨h, h4⟩ := a2 h
      obtain ⟨h, h3⟩ := a2 h
      obtain ⟨h1, h2⟩ := a2 h
      rw [of_decide_eq_true h1, okB2_op h2]
      refine (ps_fldaug ((sndE o).1 G.toGX _ h4) ((sndE a).1 G.toGX _ h5) (in_b2 h3)).imp fun D σ H ⟨δ, S, D0, s, hh, q, c⟩ => LE.mk s hh q fun x S1 q1 v H1 l1 r1 h1 => ?_
      split at q1
      · rename_i ad
        cases (show _ = _ from r1)
        split at q1
        · rename_i C dx k fs e
          obtain ⟨rfl, hk, q1⟩ := q1
          obtain ⟨cl, n⟩ := G.fk _ _ hk
          obtain ⟨gs, hH, hfr⟩ := h1 _ _ e
          split at q1
          · rename_i i0 el
            obtain ⟨w, ew, rw'⟩ := hfr.lookup el
            cases (show _ = _ from rw')
            refine ⟨ad, _, dx, gs, _, rfl, hH, cl, n, ew, LE.mk (s.mono l1) h1 q1 fun y S2 q2 u H2 l2 r2 h2 => ?_⟩
            split at q2
            · cases (show _ = _ from r2)
              rename_i j0
              obtain ⟨dx', k', fs', e2, hl, q2⟩ := q2
              obtain ⟨gs2, hH2, hfr2⟩ := h2 _ _ e2
              have go : ∀ z : Int, D0.nx δ (put S2 ad (.ins (Γ.cls k) dx' k' (putD f (.int z) fs'))) → D.nx σ (upd H2 ad (.ins (Γ.cls k) dx' (putF f (.int z) gs2))) := fun z qz => by
                have l3 : Lt X.K H2 (upd H2 ad (.ins (Γ.cls k) dx' (putF f (.int z) gs2))) := Lt.insO hH2
                exact c.nx _ _ qz _ _ ((l1.trans l2).trans l3) (s.mono ((l1.trans l2).trans l3)) (h2.putO (o := .ins (Γ.cls k) dx' k' (putD f (.int z) fs')) l3 ⟨_, upd_same, (hfr2.putF (d := .int z) rfl).mono l3⟩)
              refine ⟨i0, j0, rfl, rfl, ?_⟩
              cases op <;> first
                | exact ⟨dx', gs2, hH2, by rw [← hfr2.length]; exact hl, go _ q2⟩
                | exact q2.elim
            · exact q2.elim
          · exact q1.elim
        · exact q1.elim
      · exact q1.elim
    · cases h
  | .expr a, X, sc, E, G, st, h => by
    unfold okS at h
    split at h
    · obtain ⟨h1, h2⟩ := a2 h
      refine (ps_expr ((sndE a).1 G.toGX _ h2) (noswap h1 _ _)).imp fun D σ H ⟨δ, S, D0, s, hh, q, c⟩ => LE.mk s hh q fun x S1 q1 v H1 l r h1 => ?_
      exact c.nx _ _ q1 _ _ l (s.mono l) h1
    · cases h
  | .ret a, X, sc, E, G, st, h => by
    unfold okS at h
    split at h
    · exact (ps_ret ((sndE a).1 G.toGX _ h)).imp fun D σ H ⟨δ, S, D0, s, hh, q, c⟩ => ⟨δ, S, D0.rt, s, hh, q, c.rt⟩
    · cases h
  | .retN, X, sc, E, G, st, h => by
    unfold okS at h
    split at h
    · exact ps_retN.imp fun D σ H ⟨δ, S, D0, s, hh, q, c⟩ => c.rt _ _ q _ _ Lt.refl rfl hh
    · cases h
  | .ifs t a b, X, sc, E, G, st, h => by
    unfold okS at h
    split at h
    · obtain ⟨h, h3⟩ := a2 h
      obtain ⟨h1, h2⟩ := a2 h
      refine (ps_if ((sndE t).2 G.toGX _ h1) (sndB a G _ h2) (sndB b G _ h3)).imp fun D σ H ⟨δ, S, D0, s, hh, q, c⟩ => ?_
      have e : (asB fun k S1 => match k with
          | true => dB Γ E a D0 δ S1
          | false => dB Γ E b D0 δ S1) = fun x S1 => match x with
        | .bl true => dB Γ E a D0 δ S1
        | .bl false => dB Γ E b D0 δ S1
        | _ => False := by
        funext x S1
        cases x with
        | bl k => cases k <;> rfl
        | _ => rfl
      have q' := Eq.mpr (congrArg (dE Γ (Ex E δ) t δ S) e) q
      refine ⟨δ, S, _, s, hh, q', fun k S1 q1 H1 l h1 => ?_⟩
      dsimp only
      cases k with
      | true => rw [if_pos rfl]; exact ⟨δ, S1, D0, s.mono l, h1, q1, c.mono l⟩
      | false => rw [if_neg Bool.false_ne_true]; exact ⟨δ, S1, D0, s.mono l, h1, q1, c.mono l⟩
    · cases h
  | .for_ w t b, X, sc, E, G, st, h => by
    unfold okS at h
    split at h
    · rename_i tg it xs pos
      obtain ⟨h, h3⟩ := a2 h
      obtain ⟨h1, h2⟩ := a2 h
      have hW := sndW w G.toGX tg it h1
      refine (ps_for G.hp G.calm hW.1 (sndTf G h2) (sndB b G _ h3) (fun z => hW.2 z)).imp fun D σ H ⟨δ, S, D0, s, hh, q, c⟩ => ?_
      refine ⟨δ, S, _, s, hh, q, fun ds Gd S1 q1 J H1 l h1 W => ?_⟩
      exact for_r (w := fun D δ S => dB Γ E b D δ S) (s.mono l) h1 W (fun _ _ _ z => z) q1 (c.mono l)
    · cases h
  | .while_ t b, X, sc, E, G, st, h => by
    unfold okS at h
    split at h
    · obtain ⟨h1, h2⟩ := a2 h
      refine (ps_while G.hp ((sndE t).2 G.toGX _ h1) (sndB b G _ h2)).imp fun D σ H ⟨δ, S, D0, s, hh, q, c⟩ => ?_
      obtain ⟨n, q⟩ := q
      exact while_r (wt := fun δ S Q => dE Γ (Ex E δ) t δ S Q) (w := fun D δ S => dB Γ E b D δ S) s hh (fun _ _ _ z => z) (fun _ _ _ z => z) q c
    · cases h
  | .pass, X, sc, E, G, st, h => by
    unfold okS at h
    split at h
    · exact ps_pass.imp fun D σ H ⟨δ, S, D0, s, hh, q, c⟩ => c.nx _ _ q _ _ Lt.refl s hh
    · cases h
  | .brk, X, sc, E, G, st, h => by
    unfold okS at h
    split at h
    · exact ps_break.imp fun D σ H ⟨δ, S, D0, s, hh, q, c⟩ => c.bk _ _ q _ _ Lt.refl s hh
    · cases h
  | .cont, X, sc, E, G, st, h => by
    unfold okS at h
    split at h
    · exact ps_continue.imp fun D σ H ⟨δ, S, D0, s, hh, q, c⟩ => c.ct _ _ q _ _ Lt.refl s hh
    · cases h
theorem sndB : ∀ (b : IB) {X : Cx} {sc : Scope} {E : DXS}, GS T Γ lev N X sc E → ∀ xs : List Stmt, okB T N sc b xs = true → PSs X xs (LS X.K fun D δ S => dB Γ E b D δ S)
  | .nil, X, sc, E, G, xs, h => by
    unfold okB at h
    split at h
    · exact pss_nil.imp fun D σ H ⟨δ, S, D0, s, hh, q, c⟩ => c.nx _ _ q _ _ Lt.refl s hh
    · cases h
  | .cons i .nil, X, sc, E, G, xs, h => by
    unfold okB at h
    split at h
    · rename_i x xs
      obtain ⟨h1, h2⟩ := a2 h
      unfold okB at h2
      split at h2
      · exact (pss_one (sndS i G _ h1)).imp fun D σ H z => z
      · cases h2
    · cases h
  | .cons i (.cons j b), X, sc, E, G, xs, h => by
    unfold okB at h
    split at h
    · obtain ⟨h1, h2⟩ := a2 h
      refine (pss_cons (sndS i G _ h1) (sndB (.cons j b) G _ h2)).imp fun D σ H ⟨δ, S, D0, s, hh, q, c⟩ => ?_
      exact ⟨δ, S, _, s, hh, q, ⟨fun δ' S' q' σ' H' l s' h' => ⟨δ', S', D0, s', h', q', c.mono l⟩, c.rt, c.bk, c.ct⟩⟩
    · cases h
end
end
end Z
namespace Z
open PySem PySem.Spec PyProof.Rows L2
theorem zip_some {n : Str} : ∀ {ns : List Str} {us : List Value}, us.length = ns.length → n ∈ ns → ((ns.zip us).lookup n).isNone = false
  | [], _, _, h => by cases h
  | m :: ns, [], hl, _ => by cases hl
  | m :: ns, u :: us, hl, h => by
    rw [List.zip_cons_cons, List.lookup_cons]
    cases e : (n == m) with
    | true => rfl
    | false =>
      refine zip_some (by simpa using hl) ?_
      rcases List.mem_cons.mp h with r | r
      · rw [r] at e; simp at e
      · exact r
theorem zip_self : ∀ {ns : List Str} {us : List Value}, us.length = ns.length → ns.Nodup → ns.filterMap (fun n => ((ns.zip us).lookup n).map (fun v => (n, v))) = ns.zip us
  | [], _, _, _ => rfl
  | m :: ns, [], hl, _ => by cases hl
  | m :: ns, u :: us, hl, h => by
    obtain ⟨h1, h2⟩ := List.nodup_cons.mp h
    have ih := zip_self (ns := ns) (us := us) (by simpa using hl) h2
    have e0 : (((m :: ns).zip (u :: us)).lookup m).map (fun v => (m, v)) = some (m, u) := by
      rw [List.zip_cons_cons, List.lookup_cons]
      simp
    rw [List.filterMap_cons, e0]
    show (m, u) :: _ = (m, u) :: ns.zip us
    congr 1
    rw [← ih]
    have eq : ∀ l : List Str, (∀ n ∈ l, n ∈ ns) → l.filterMap (fun n => (((m :: ns).zip (u :: us)).lookup n).map (fun v => (n, v))) = l.filterMap (fun n => ((ns.zip us).lookup n).map (fun v => (n, v))) := by
      intro l
      induction l with
      | nil => intro _; rfl
      | cons a l il =>
        intro hm
        have ha : (a == m) = false := beq_eq_false_iff_ne.mpr fun e => h1 (e ▸ hm a List.mem_cons_self)
        have e1 : ((m :: ns).zip (u :: us)).lookup a = (ns.zip us).lookup a := by
          rw [List.zip_cons_cons, List.lookup_cons, ha]
        rw [List.filterMap_cons, List.filterMap_cons, e1, il fun n hn => hm n (List.mem_cons_of_mem _ hn)]
    rw [eq ns fun _ z => z, ih]
/-- plain parameters, all given -/
def plainA (p : Arguments) : Bool := p.posonlyargs.isEmpty && p.kwonlyargs.isEmpty && p.vararg.isNone && p.kwarg.isNone
theorem bind_plain {x qual : Str} {params : Arguments} {body : List Stmt} {scope : Scope} {kV doc pm : Value} {an : Option Addr} {cdv ct : Value} {us : List Value} (h : plainA params = true) (nd : (params.args.map (·.arg)).Nodup) (hl : us.length = (params.args.map (·.arg)).length) :
    bindArgs (PySem.W.fnOf x qual params body scope .none kV doc pm an cdv ct) ⟨us, []⟩ = pure ((params.args.map (·.arg)).zip us) := by
  obtain ⟨po, ar, va, ko, kd, ka, df⟩ := params
  simp only [plainA, Bool.and_eq_true, List.isEmpty_iff, Option.isNone_iff_eq_none] at h
  obtain ⟨⟨⟨rfl, rfl⟩, rfl⟩, rfl⟩ := h
  have hl' : us.length = (ar.map (·.arg)).length := hl
  have miss : (((ar.map (·.arg)).take (ar.map (·.arg)).length).filter fun n => (((ar.map (·.arg)).zip us).lookup n).isNone) = [] := by
    rw [List.take_length]
    refine List.filter_eq_nil_iff.mpr fun n hn => ?_
    rw [zip_some hl' hn]
    exact Bool.false_ne_true
  have zs := zip_self hl' nd
  have e0 : seqItems? Value.none = pure none := by rfl
  unfold bindArgs
  simp only [PySem.W.fnOf, List.forIn_nil, pure_bind, List.nil_append, List.map_nil, e0, Option.getD_none, hl', gt_iff_lt, Nat.lt_irrefl, decide_false, Bool.false_and, Bool.false_eq_true, if_false, List.drop_nil, List.length_nil, Nat.sub_zero, miss, List.isEmpty_nil, Bool.not_true, List.zip_nil_right, List.append_nil, zs]
end Z
namespace Z
open PySem PySem.Spec PyProof.Rows L2
/-- a def for the plain side: its parameters, its slots, its body -/
structure FB where
  np : Nat
  ns : Nat
  body : IB
/-- the plain world of a text -/
structure Wd where
  fb : List (Nat × FB)
  adr : Nat → Addr
  con : Nat → D
  cls : Nat → Addr
  ini : Nat → Nat
  mth : Nat → Str → Option Nat
  fok : Nat → Str → Bool
def Wd.gm (W : Wd) (call : Nat → List D → Sto → DK → DX → Prop) : Gm := ⟨W.adr, call, W.con, W.cls, W.ini, W.mth, W.fok⟩
def frame (b : FB) (ds : List D) : Env' := ds.map some ++ List.replicate (b.ns - ds.length) none
def ends (Q : DK) : DEnds := { nx := fun _ S' => ∃ T, Sub T S' ∧ Q .non T, rt := fun d S' => ∃ T, Sub T S' ∧ Q d T }
def dcall (W : Wd) : Nat → Nat → List D → Sto → DK → DX → Prop
  | 0, _, _, _, _, _ => False
  | n + 1, f, ds, S, Q, E => match W.fb.lookup f with
    | some b => ds.length = b.np ∧ dB (W.gm (dcall W n)) (fun c fs _ S' => ∃ T, Sub T S' ∧ E c fs T) b.body (ends Q) (frame b ds) S
    | none => False
/-- a def of the text: where it stands, its names, its slots, its statement -/
structure FDef where
  at_ : Str × Option Str
  pn : Str
  qual : Str
  N : List Str
  st : Stmt
def FDef.ps (d : FDef) : List Str := (defArgs d.st).args.map (·.arg)
def FDef.dd (d : FDef) : He.DefD := ⟨d.at_, d.pn, d.qual, defArgs d.st, defBody d.st, defScope d.st, [], []⟩
def fsB (N P : List Str) (sc : Scope) : Bool :=
  (match sc.kind with | .function => true | _ => false) && !sc.isCoroutine && !sc.isGenerator && decide N.Nodup && decide (N.take P.length = P) && P.all (stoB sc) && sc.names.all fun y => !(y.2 == .free)
theorem fsB_ok {N P : List Str} {sc : Scope} (h : fsB N P sc = true) : FnScope N P sc := by
  unfold fsB at h
  obtain ⟨h, h7⟩ := a2 h
  obtain ⟨h, h6⟩ := a2 h
  obtain ⟨h, h5⟩ := a2 h
  obtain ⟨h, h4⟩ := a2 h
  obtain ⟨h, h3⟩ := a2 h
  obtain ⟨h1, h2⟩ := a2 h
  refine ⟨?_, by simpa using h2, by simpa using h3, of_decide_eq_true h4, of_decide_eq_true h5, fun x hx => ?_, fun y hy e => ?_⟩
  · split at h1 <;> first | assumption | cases h1
  · have q := List.all_eq_true.mp h6 x hx
    unfold stoB at q
    split at q <;> first | exact .inl (by assumption) | exact .inr (by assumption) | cases q
  · have q := List.all_eq_true.mp h7 y hy
    rw [e] at q
    cases q
def chkDef (T : Tb) (b : FB) (d : FDef) : Bool := fsB d.N d.ps (defScope d.st) && decide (b.np = d.ps.length) && decide (b.ns = d.N.length) && plainA (defArgs d.st) && okB T d.N (defScope d.st) b.body (defBody d.st)
def chkAll (T : Tb) : List (Nat × FB) → List (Nat × FDef) → Bool
  | [], [] => true
  | (i, b) :: bs, (j, d) :: ds => (i == j) && chkDef T b d && chkAll T bs ds
  | _, _ => false
theorem chkAll_get {T : Tb} : ∀ {bs : List (Nat × FB)} {ds : List (Nat × FDef)} {f : Nat} {d : FDef}, chkAll T bs ds = true → ds.lookup f = some d → ∃ b, bs.lookup f = some b ∧ chkDef T b d = true
  | [], [], f, d, _, e => by cases e
  | [], _ :: _, _, _, h, _ => by cases h
  | _ :: _, [], _, _, h, _ => by cases h
  | (i, b) :: bs, (j, x) :: ds, f, d, h, e => by
    obtain ⟨h, h3⟩ := a2 h
    obtain ⟨h1, h2⟩ := a2 h
    have ij : i = j := eq_of_beq h1
    subst ij
    rw [List.lookup_cons] at e ⊢
    cases q : (f == i) with
    | true => rw [q] at e; cases e; exact ⟨b, rfl, h2⟩
    | false => rw [q] at e; exact chkAll_get h3 e
/-- the text's facts, in a heap whose written part is K -/
structure Hd (P : Program) (w : World) (K : PySem.W.Frag) (mg : Str → Option Value) (T : Tb) (W : Wd) (tab : List (Nat × FDef)) : Prop where
  chk : chkAll T W.fb tab = true
  fs : ∀ (f : Nat) (x : Str) (np : Nat), T.fs.lookup f = some (x, np) → ∃ d, tab.lookup f = some d ∧ (x ≠ "" → mg x = some (.ref (W.adr f)))
  fun_ : ∀ (f : Nat) (d : FDef), tab.lookup f = some d → ∃ fd, FunD K d.pn d.qual (defArgs d.st) (defBody d.st) (defScope d.st) [] [] (W.adr f) fd
  con : ∀ (j : Nat) (x : Str), T.cons.lookup j = some x → ∃ u v, mg x = some u ∧ RelV v u ∧ ∀ H, Rep K H (W.con j) v
  bl : ∀ x ∈ blt, mg x = none
  cl : ∀ (k : Nat) (x : Str) (f : Nat), T.cls.lookup k = some (x, f) → mg x = some (.ref (W.cls k)) ∧ Cls K (W.cls k) ∧ Mk K (W.cls k) (W.adr f) ∧ W.ini k = f ∧ ∃ y np, T.fs.lookup f = some (y, np)
  mt : ∀ k m f, W.mth k m = some f → Cls K (W.cls k) ∧ Meth K (W.cls k) m (W.adr f) ∧ ∃ y np, T.fs.lookup f = some (y, np)
  fk : ∀ k f, W.fok k f = true → Cls K (W.cls k) ∧ NoAttr K (W.cls k) f
theorem start_rep {K : PySem.W.Frag} {H : Hp} {b : FB} {N : List Str} {ds : List D} {vs : List V} (hn : b.ns = N.length) (r : Reps K H ds vs) : SR K H (frame b ds) (L2.start N vs) := by
  have hl := r.length
  refine ⟨?_, fun i d e => ?_⟩
  · unfold frame L2.start
    simp [hl, hn]
  · unfold frame at e
    by_cases hi : i < ds.length
    · rw [List.getElem?_append_left (by simpa using hi), List.getElem?_map] at e
      cases q : ds[i]? with
      | none => rw [q] at e; cases e
      | some x =>
        rw [q] at e
        cases e
        obtain ⟨v, e1, r1⟩ := r.get q
        refine ⟨v, ?_, r1⟩
        unfold L2.start
        rw [List.getElem?_append_left (by rw [List.length_map]; omega), List.getElem?_map, e1]
        rfl
    · rw [List.getElem?_append_right (by simpa using hi), List.getElem?_replicate] at e
      split at e <;> cases e
theorem lt_inv {X : Cx} {pins : List (Addr × Obj)} {σ : L2.St} {H : Hp} {s : Shared} (I : Inv X pins σ H s) : Lt X.K X.H_0 H := by
  refine ⟨fun a xs h => ?_, fun a o u h => I.base.frzs a o u h⟩
  rcases h with (h | ⟨o, h⟩) | h
  · exact .inl (.inl (I.base.tups a xs h))
  · exact .inl (.inr ⟨o, I.base.frzs a o _ h⟩)
  · exact .inr h
theorem dcall_len {W : Wd} {n f : Nat} {ds : List D} {S : Sto} {Q : DK} {E : DX} (h : dcall W n f ds S Q E) : ∃ b, W.fb.lookup f = some b ∧ ds.length = b.np := by
  cases n with
  | zero => exact h.elim
  | succ n =>
    unfold dcall at h
    split at h
    · exact ⟨_, by assumption, h.1⟩
    · exact h.elim
theorem all_ok {P : Program} {w : World} {K : PySem.W.Frag} {mg : Str → Option Value} {base : Heap} {T : Tb} {W : Wd} {tab : List (Nat × FDef)} (h : Hd P w K mg T W tab) :
    ∀ (n f : Nat) (d : FDef) (fd : FuncData), tab.lookup f = some d → FunD K d.pn d.qual (defArgs d.st) (defBody d.st) (defScope d.st) [] [] (W.adr f) fd →
      FnOk P w K mg base (L2.CX P w) (2 * n) (W.adr f) fd d.ps (LSp K W.cls (dcall W n f)) := by
  have len : ∀ (n f : Nat) (d : FDef), tab.lookup f = some d → ∀ vs H Q E, LSp K W.cls (dcall W n f) vs H Q E → vs.length = d.ps.length := by
    intro n f d hd vs H Q E ⟨ds, S, Q0, E0, r, hh, q, c, x⟩
    obtain ⟨b, hb, hl⟩ := dcall_len q
    obtain ⟨b2, hb2, ck⟩ := chkAll_get h.chk hd
    rw [hb] at hb2
    cases hb2
    unfold chkDef at ck
    obtain ⟨ck, _⟩ := a2 ck
    obtain ⟨ck, _⟩ := a2 ck
    obtain ⟨ck, _⟩ := a2 ck
    obtain ⟨_, c2⟩ := a2 ck
    rw [← r.length, hl]
    exact of_decide_eq_true c2
  intro n
  induction n with
  | zero =>
    intro f d fd hd F
    have no : ∀ vs H Q E, ¬ LSp K W.cls (dcall W 0 f) vs H Q E := fun vs H Q E ⟨_, _, _, _, _, _, q, _⟩ => q
    exact ⟨fun vs H Q E q => absurd q (no vs H Q E), fun A outer s H args us vs Q E _ _ _ _ q => absurd q (no vs H Q E)⟩
  | succ n ih =>
    intro f d fd hd F
    obtain ⟨b, hb, ck⟩ := chkAll_get h.chk hd
    unfold chkDef at ck
    obtain ⟨ck, c5⟩ := a2 ck
    obtain ⟨ck, c4⟩ := a2 ck
    obtain ⟨ck, c3⟩ := a2 ck
    obtain ⟨c1, c2⟩ := a2 ck
    have S := fsB_ok c1
    refine F.ok (k := 2 * n + 1) S (len (n + 1) f d hd) fun cdv A outer s H vs Q E hr hsp => ?_
    obtain ⟨ds, St, Q0, E0, r, hh, q, c, x⟩ := hsp
    unfold dcall at q
    rw [hb] at q
    obtain ⟨_, q⟩ := q
    have G : GS T (W.gm (dcall W n)) (2 * n) d.N (cxOf (L2.CX P w) P w K mg base d.N d.qual (defScope d.st) (W.adr f) cdv A outer s H E) (defScope d.st) (fun c fs _ S' => ∃ T, Sub T S' ∧ E0 c fs T) := by
      refine { hN := rfl, nd := S.nd, hsc := rfl, hr := hr, calm := rfl, tk := ?_, con := h.con, bl := h.bl, fn := ?_, cl := h.cl, mt := h.mt, fk := h.fk, hs := rfl, hf := rfl, hp := passes_of rfl, hfn := fun _ => rfl }
      · have t := takes_of (X := cxOf (L2.CX P w) P w K mg base d.N d.qual (defScope d.st) (W.adr f) cdv A outer s H E) (E := E) rfl rfl rfl rfl
        rintro u s' ⟨a, B, sI, pins, σ, H', cls, dx, e, I, nb, up, sky, na, os, ag, wi⟩
        obtain ⟨C, fs, δ, S', rfl, ⟨T', sb, qe⟩, hs, hr', hx⟩ := wi
        exact t u s' ⟨a, B, sI, pins, σ, H', _, dx, e, I, nb, up, sky, na, os, ag, x C fs T' qe dx H' (lt_inv I) (hr'.sub sb) hx⟩
      · intro g y np hg
        obtain ⟨d2, hd2, hm⟩ := h.fs g y np hg
        obtain ⟨fd2, F2⟩ := h.fun_ g d2 hd2
        refine ⟨hm, fd2, d2.ps, ?_⟩
        obtain ⟨b2, hb2, ck2⟩ := chkAll_get h.chk hd2
        unfold chkDef at ck2
        obtain ⟨ck2, _⟩ := a2 ck2
        obtain ⟨ck2, e4⟩ := a2 ck2
        obtain ⟨ck2, _⟩ := a2 ck2
        obtain ⟨e1, e2⟩ := a2 ck2
        have S2 := fsB_ok e1
        have nd2 : d2.ps.Nodup := by rw [← S2.pre]; exact S2.nd.sublist (List.take_sublist _ _)
        exact ⟨F2.kp, F2.bindsN (ps := d2.ps) fun kV doc pm an cd ct us hl => bind_plain e4 nd2 hl, ih g d2 fd2 hd2 F2⟩
    refine ⟨_, sndB b.body G (defBody d.st) c5, frame b ds, St, ends Q0, start_rep (of_decide_eq_true c3) r, hh, q, ?_⟩
    have cn : ∀ dv S', (∃ T, Sub T S' ∧ Q0 dv T) → ∀ v H', Lt K H H' → Rep K H' dv v → HR K H' S' → Q v H' := fun dv S' ⟨T', sb, qq⟩ v H' l rv hv => c dv T' qq v H' l rv (hv.sub sb)
    exact ⟨fun δ S' qq σ H' l _ hv => cn .non S' qq .non H' l rfl hv, cn, fun _ _ z => z.elim, fun _ _ z => z.elim⟩
end Z
namespace Z
open PySem PySem.Spec PyProof.Rows L2
section
variable (K : PySem.W.Frag)
mutual
/-- a constant of the text stands for plain data -/
def repB : D → Value → Bool
  | .non, u => match u with
    | .none => true
    | _ => false
  | .bl b, u => match u with
    | .bool c => b == c
    | _ => false
  | .int i, u => match u with
    | .int j _ => decide (i = j)
    | _ => false
  | .str x, u => match u with
    | .str y _ => decide (x = y)
    | _ => false
  | .tup ds, u => match u with
    | .ref a => match K.lookup a with
      | some ⟨.type c, _, .seq its _, _⟩ => decide (c = "tuple") && decide (its.size ≤ sizeLine) && repsB ds its.toList
      | _ => false
    | _ => false
  | .rl _, _ => false
  | .loc _, _ => false
  | .ty _, _ => false
def repsB : List D → List Value → Bool
  | [], us => match us with
    | [] => true
    | _ => false
  | d :: ds, us => match us with
    | u :: us => repB d u && repsB ds us
    | _ => false
end
end
mutual
theorem repB_ok {K : PySem.W.Frag} : ∀ {d : D} {u : Value}, repB K d u = true → ∃ v, RelV v u ∧ ∀ H, Rep K H d v
  | .non, u, h => by
    unfold repB at h
    split at h
    · exact ⟨.non, rfl, fun _ => rfl⟩
    · cases h
  | .bl b, u, h => by
    unfold repB at h
    split at h
    · exact ⟨.bl b, by rw [eq_of_beq h] <;> rfl, fun _ => rfl⟩
    · cases h
  | .int i, u, h => by
    unfold repB at h
    split at h
    · exact ⟨.int i, ⟨_, by rw [of_decide_eq_true h]⟩, fun _ => rfl⟩
    · cases h
  | .str x, u, h => by
    unfold repB at h
    split at h
    · exact ⟨.str x, ⟨_, by rw [of_decide_eq_true h]⟩, fun _ => rfl⟩
    · cases h
  | .tup ds, u, h => by
    unfold repB at h
    split at h
    · rename_i a
      split at h
      · rename_i c od its n sl e
        obtain ⟨h, h3⟩ := a2 h
        obtain ⟨h1, h2⟩ := a2 h
        obtain ⟨vs, r, q⟩ := repsB_ok h3
        exact ⟨.ref a, rfl, fun H => ⟨a, vs, rfl, .inr ⟨_, its, n, e, congrArg Value.type (of_decide_eq_true h1), rfl, of_decide_eq_true h2, r⟩, q H⟩⟩
      · cases h
    · cases h
  | .rl _, _, h => by unfold repB at h; cases h
  | .loc _, _, h => by unfold repB at h; cases h
  | .ty _, _, h => by unfold repB at h; cases h
theorem repsB_ok {K : PySem.W.Frag} : ∀ {ds : List D} {us : List Value}, repsB K ds us = true → ∃ vs, Vals vs us ∧ ∀ H, Reps K H ds vs
  | [], us, h => by
    unfold repsB at h
    split at h
    · exact ⟨[], .nil, fun _ => rfl⟩
    · cases h
  | d :: ds, us, h => by
    unfold repsB at h
    split at h
    · obtain ⟨h1, h2⟩ := a2 h
      obtain ⟨v, r, q⟩ := repB_ok h1
      obtain ⟨vs, rs, qs⟩ := repsB_ok h2
      exact ⟨v :: vs, .cons r rs, fun H => ⟨v, vs, rfl, q H, qs H⟩⟩
    · cases h
end
/-- a text, told: its defs, their bodies, its constants, classes (with the number of __init__), methods, fields; all by numbers -/
structure Sy where
  tab : List (Nat × FDef)
  fb : List (Nat × FB)
  cons : List (Nat × Str × D)
  cls : List (Nat × Str × Nat)
  mth : List (Nat × Str × Nat)
  fok : List (Nat × Str)
def gnm (d : FDef) : Str := match d.at_.2 with
  | none => d.at_.1
  | some _ => ""
def Sy.T (s : Sy) : Tb := ⟨s.tab.map fun p => (p.1, gnm p.2, p.2.ps.length), s.cons.map fun p => (p.1, p.2.1), s.cls⟩
def Sy.W (s : Sy) (K : PySem.W.Frag) : Wd where
  fb := s.fb
  adr := fun f => match s.tab.lookup f with
    | some d => He.fAd K d.at_
    | none => 0
  con := fun j => match s.cons.lookup j with
    | some p => p.2
    | none => .non
  cls := fun k => match s.cls.lookup k with
    | some p => He.ga K p.1
    | none => 0
  ini := fun k => match s.cls.lookup k with
    | some p => p.2
    | none => 0
  mth := fun k m => (s.mth.find? fun p => decide (p.1 = k) && decide (p.2.1 = m)).map (·.2.2)
  fok := fun k f => s.fok.any fun p => decide (p.1 = k) && decide (p.2 = f)
def chkS (s : Sy) (K : PySem.W.Frag) : Bool :=
  (blt.all fun x => (He.Fa.free x).ok K) && (s.tab.all fun d => match d.2.at_.2 with | none => (He.Fa.glo d.2.at_.1).ok K | some _ => true) &&
  (s.cons.all fun p => match PySem.W.nsIn K mainGlobals p.2.1 with | some (some u) => repB K p.2.2 u | _ => false) &&
  (s.cls.all fun p => (He.Fa.glo p.2.1).ok K && (He.Fa.cls p.2.1).ok K && (He.Fa.mkr p.2.1).ok K && (match s.tab.lookup p.2.2 with | some d => decide (d.at_ = (p.2.1, some ("__init__" : Str))) | none => false)) &&
  (s.mth.all fun p => match s.cls.lookup p.1 with
    | some c => (match s.tab.lookup p.2.2 with | some d => (He.Fa.cls c.1).ok K && (He.Fa.meth c.1 p.2.1).ok K && decide (d.at_ = (c.1, some p.2.1)) | none => false)
    | none => false) &&
  (s.fok.all fun p => match s.cls.lookup p.1 with | some c => (He.Fa.cls c.1).ok K && (He.Fa.noat c.1 p.2).ok K | none => false)
theorem lookup_mem {α : Type} : ∀ {l : List (Nat × α)} {f : Nat} {d : α}, l.lookup f = some d → (f, d) ∈ l
  | [], _, _, h => by cases h
  | (i, x) :: l, f, d, h => by
    rw [List.lookup_cons] at h
    cases q : (f == i) with
    | true => rw [q] at h; cases h; rw [eq_of_beq q]; exact List.mem_cons_self
    | false => rw [q] at h; exact List.mem_cons_of_mem _ (lookup_mem h)
theorem lookup_map {α β : Type} (g : α → β) : ∀ (l : List (Nat × α)) (f : Nat), (l.map fun p => (p.1, g p.2)).lookup f = (l.lookup f).map g
  | [], _ => rfl
  | (i, x) :: l, f => by
    rw [List.map_cons, List.lookup_cons, List.lookup_cons]
    cases q : (f == i) with
    | true => rfl
    | false => exact lookup_map g l f
theorem tfs {s : Sy} {f : Nat} {x : Str} {np : Nat} (h : s.T.fs.lookup f = some (x, np)) : ∃ d, s.tab.lookup f = some d ∧ gnm d = x ∧ d.ps.length = np := by
  have h' : (s.tab.map fun p => (p.1, (fun d : FDef => (gnm d, d.ps.length)) p.2)).lookup f = some (x, np) := h
  rw [lookup_map (fun d : FDef => (gnm d, d.ps.length))] at h'
  cases e : s.tab.lookup f with
  | none => rw [e] at h'; cases h'
  | some d => rw [e] at h'; cases h'; exact ⟨d, rfl, rfl, rfl⟩
theorem tfs_of {s : Sy} {f : Nat} {d : FDef} (h : s.tab.lookup f = some d) : ∃ y np, s.T.fs.lookup f = some (y, np) := by
  refine ⟨gnm d, d.ps.length, ?_⟩
  show (s.tab.map fun p => (p.1, (fun d : FDef => (gnm d, d.ps.length)) p.2)).lookup f = _
  rw [lookup_map (fun d : FDef => (gnm d, d.ps.length)), h]
  rfl
theorem hd_of {P : Program} {w : World} {K : PySem.W.Frag} {h : Heap} {mg : Str → Option Value} {s : Sy} (X : K.In h) (G : h.Ns mainGlobals mg) (c : chkS s K = true) (ck : chkAll s.T s.fb s.tab = true)
    (F : ∀ (f : Nat) (d : FDef), s.tab.lookup f = some d → ∃ fd, FunD K d.pn d.qual (defArgs d.st) (defBody d.st) (defScope d.st) [] [] (He.fAd K d.at_) fd) : Hd P w K mg s.T (s.W K) s.tab := by
  unfold chkS at c
  obtain ⟨c, c6⟩ := a2 c
  obtain ⟨c, c5⟩ := a2 c
  obtain ⟨c, c4⟩ := a2 c
  obtain ⟨c, c3⟩ := a2 c
  obtain ⟨c1, c2⟩ := a2 c
  have ad : ∀ {f : Nat} {d : FDef}, s.tab.lookup f = some d → (s.W K).adr f = He.fAd K d.at_ := fun {f d} e => by
    show (match s.tab.lookup f with | some d => He.fAd K d.at_ | none => 0) = _
    rw [e]
  have cl : ∀ {k : Nat} {p : Str × Nat}, s.cls.lookup k = some p → (s.W K).cls k = He.ga K p.1 := fun {k p} e => by
    show (match s.cls.lookup k with | some p => He.ga K p.1 | none => 0) = _
    rw [e]
  refine ⟨ck, fun f x np hf => ?_, fun f d hd => ?_, fun j x hj => ?_, fun x hx => ?_, fun k x f hk => ?_, fun k m f hm => ?_, fun k f hf => ?_⟩
  · obtain ⟨d, e1, e2, _⟩ := tfs hf
    refine ⟨d, e1, fun hx => ?_⟩
    have q := List.all_eq_true.mp c2 (f, d) (lookup_mem e1)
    rw [ad e1]
    unfold gnm at e2
    split at e2
    · rename_i e3
      dsimp only at q
      rw [e3] at q
      rw [← e2, He.glo_ok X G q]
      unfold He.fAd
      rw [e3]
    · exact absurd e2.symm hx
  · rw [ad hd]
    exact F f d hd
  · have hj' : (s.cons.map fun p => (p.1, (fun p : Str × D => p.1) p.2)).lookup j = some x := hj
    rw [lookup_map (fun p : Str × D => p.1)] at hj'
    cases e : s.cons.lookup j with
    | none => rw [e] at hj'; cases hj'
    | some p =>
      rw [e] at hj'
      cases hj'
      have q := List.all_eq_true.mp c3 (j, p) (lookup_mem e)
      have ec : (s.W K).con j = p.2 := by
        show (match s.cons.lookup j with | some p => p.2 | none => D.non) = _
        rw [e]
      rw [ec]
      split at q
      · rename_i u eu
        obtain ⟨v, r1, r2⟩ := repB_ok q
        exact ⟨u, v, PySem.W.mg_of X G eu, r1, r2⟩
      · cases q
  · exact He.free_ok X G (List.all_eq_true.mp c1 x hx)
  · have hk' : s.cls.lookup k = some (x, f) := hk
    have q := List.all_eq_true.mp c4 (k, x, f) (lookup_mem hk')
    obtain ⟨q, q4⟩ := a2 q
    obtain ⟨q, q3⟩ := a2 q
    obtain ⟨q1, q2⟩ := a2 q
    split at q4
    · rename_i d e
      have ea : d.at_ = (x, some ("__init__" : Str)) := of_decide_eq_true q4
      rw [cl hk', ad e, ea]
      refine ⟨He.glo_ok X G q1, He.cls_ok q2, He.mkr_ok q3, ?_, tfs_of e⟩
      show (match s.cls.lookup k with | some p => p.2 | none => 0) = f
      rw [hk']
    · cases q4
  · have hm' : (s.mth.find? fun p => decide (p.1 = k) && decide (p.2.1 = m)).map (·.2.2) = some f := hm
    cases e : s.mth.find? fun p => decide (p.1 = k) && decide (p.2.1 = m) with
    | none => rw [e] at hm'; cases hm'
    | some p =>
      rw [e] at hm'
      have e1 := List.find?_some e
      obtain ⟨e1, e2⟩ := a2 e1
      have e1 : p.1 = k := of_decide_eq_true e1
      have e2 : p.2.1 = m := of_decide_eq_true e2
      have e3 : p.2.2 = f := Option.some.inj hm'
      have q := List.all_eq_true.mp c5 p (List.mem_of_find?_eq_some e)
      rw [e1, e3, e2] at q
      split at q
      · rename_i c hc
        split at q
        · rename_i d hd
          obtain ⟨q, q3⟩ := a2 q
          obtain ⟨q1, q2⟩ := a2 q
          have ea : d.at_ = (c.1, some m) := of_decide_eq_true q3
          rw [cl hc, ad hd, ea]
          exact ⟨He.cls_ok q1, He.meth_ok q2, tfs_of hd⟩
        · cases q
      · cases q
  · have hf' : (s.fok.any fun p => decide (p.1 = k) && decide (p.2 = f)) = true := hf
    obtain ⟨p, hp, e⟩ := List.any_eq_true.mp hf'
    obtain ⟨e1, e2⟩ := a2 e
    have q := List.all_eq_true.mp c6 p hp
    rw [of_decide_eq_true e1, of_decide_eq_true e2] at q
    split at q
    · rename_i c hc
      obtain ⟨q1, q2⟩ := a2 q
      rw [cl hc]
      exact ⟨He.cls_ok q1, He.noat_ok q2⟩
    · cases q
abbrev AlZ : Type := Bool × List He.FnW
def obsZ (s : Sy) (K : PySem.W.Frag) : AlZ := (chkS s K && s.tab.all fun d => d.2.dd.ok K, s.tab.map fun d => He.fnW K d.2.at_)
def valZ (s : Sy) : AlZ := (true, s.tab.map fun d => d.2.dd.val)
def obsZG (n : Nat) (s : Sy) (g : Addr → Option Obj) : AlZ := obsZ s (He.frG g (He.asD g n))
def hookZ (n : Nat) (s : Sy) : PySem.W.Hook where
  α := AlZ
  obs := fun sh => obsZG n s sh.heap.get?
  val := fun _ => valZ s
  says := fun _ h => ∃ K : PySem.W.Frag, K.In h ∧ obsZ s K = valZ s
  of := fun _ _ e => ⟨_, He.frG_in, e⟩
  keeps := fun _ _ _ ⟨K, hK, c⟩ k => ⟨K, PySem.W.Frag.In.keeps hK k, c⟩
theorem obsZG_eq {n : Nat} {s : Sy} {g : Addr → Option Obj} {sh : Shared} (h : ∀ a, g a = sh.heap.get? a) : obsZG n s g = (hookZ n s).obs sh := by
  have e : g = sh.heap.get? := funext h
  rw [e] <;> rfl
theorem hd_says {P : Program} {w : World} {K : PySem.W.Frag} {h : Heap} {mg : Str → Option Value} {s : Sy} (X : K.In h) (G : h.Ns mainGlobals mg) (c : obsZ s K = valZ s) (ck : chkAll s.T s.fb s.tab = true) : Hd P w K mg s.T (s.W K) s.tab := by
  obtain ⟨c1, c2⟩ := a2 (show (chkS s K && s.tab.all fun d => d.2.dd.ok K) = true from congrArg (fun z : AlZ => z.1) c)
  refine hd_of X G c1 ck fun f d hd => ?_
  have e : s.tab.map (fun d => He.fnW K d.2.at_) = s.tab.map fun d => d.2.dd.val := congrArg (fun z : AlZ => z.2) c
  have hm := lookup_mem hd
  exact He.DefD.funD (d := d.dd) (List.map_inj_left.mp e (f, d) hm) (List.all_eq_true.mp c2 (f, d) hm)
/-- THE END: the plain side says True of every script -/
theorem walk_z {l : PySem.W.OpenLaw} {s : Sy} {n f : Nat} {q : Program} {loose : List Str} {XP : (Str → Option Value) → Heap → Prop} {YP : World → Heap → Prop} {d : DefRec} {dl : FDef} (hn : l.most = some 63) (hdf : d.params.defaults = []) (hr : Room (2 * n) callerA)
    (hY : ∀ w h, YP w h → ∃ K : PySem.W.Frag, K.In h ∧ obsZ s K = valZ s) (ck : chkAll s.T s.fb s.tab = true) (hf : s.tab.lookup f = some dl) (hps : dl.ps = [("script" : Str)]) (hat : dl.at_ = (d.name, none))
    (law : ∀ (K : PySem.W.Frag) (ns : List Int), ns.length ≤ 63 → (∀ z ∈ ns, Builtin.Int.intBits z ≤ 1048576) → dcall (s.W K) n f [.rl (ns.map D.int)] (fun _ => none) (fun v _ => v = .bl true) fun _ _ _ => False) :
    PySem.W.WalkO q loose XP YP l.row.toRowW d [] (fun g vs => PySem.call g vs) := by
  refine Att.attach_callB hn hdf fun w s₀ s₁ mg mb fa o pm cd doc a vs ns G Y ho hd hcd hmg hobj hints hlen hbits hg => ?_
  obtain ⟨K, KX, c⟩ := hY w _ Y
  have H0 : Hd l.prog w K mg s.T (s.W K) s.tab := hd_says KX G.T.g c ck
  obtain ⟨fd, F⟩ := H0.fun_ f dl hf
  have ea : (s.W K).adr f = fa := by
    obtain ⟨c1, _⟩ := a2 (show (chkS s K && s.tab.all fun d => d.2.dd.ok K) = true from congrArg (fun z : AlZ => z.1) c)
    unfold chkS at c1
    obtain ⟨c1, _⟩ := a2 c1
    obtain ⟨c1, _⟩ := a2 c1
    obtain ⟨c1, _⟩ := a2 c1
    obtain ⟨c1, _⟩ := a2 c1
    obtain ⟨_, c2⟩ := a2 c1
    have q := List.all_eq_true.mp c2 (f, dl) (lookup_mem hf)
    dsimp only at q
    rw [hat] at q
    have e1 : mg d.name = some (.ref (He.ga K d.name)) := He.glo_ok KX G.T.g q
    rw [hmg] at e1
    have e2 : (s.W K).adr f = He.fAd K dl.at_ := by
      show (match s.tab.lookup f with | some d => He.fAd K d.at_ | none => 0) = _
      rw [hf]
    rw [e2, hat]
    cases e1
    rfl
  rw [ea] at F
  obtain ⟨b, hb, ck2⟩ := chkAll_get ck hf
  unfold chkDef at ck2
  obtain ⟨ck2, _⟩ := a2 ck2
  obtain ⟨ck2, e4⟩ := a2 ck2
  have hb2 : ∀ (s : Shared) (u : Value), BindsTo s fd ⟨[u], []⟩ [("script", u)] := fun s u => by
    have e : dl.ps.zip [u] = [(("script" : Str), u)] := by rw [hps]; rfl
    rw [← e]
    exact F.bindsA (ps := dl.ps) (fun kV doc pm an cd ct us hl => bind_plain e4 (show dl.ps.Nodup by rw [hps]; simp) hl) s [u] (by rw [hps]; rfl)
  refine law_call (CX := L2.CX l.prog w) (sp := LSp K (s.W K).cls (dcall (s.W K) n f)) KX G.T.g G.T.b G.T.builtins G.T.nolimit hg hobj hints (Nat.le_trans hlen (by decide)) hr (fun base KB NB => ?_) hb2 (fun H hO hS => ?_) fun H e s' z => ?_
  · rw [← hps]
    have := all_ok (base := base) H0 n f dl fd hf (by rw [ea]; exact F)
    rw [ea] at this
    exact this
  · refine ⟨[.rl (ns.map D.int)], fun _ => none, _, _, ⟨.ref a, [], rfl, ⟨a, ns.map V.int, rfl, ?_, Reps.ints⟩, rfl⟩, (fun b o e => by cases e), law K ns hlen hbits, fun dv S' qv v H' l r h => ?_, fun _ _ _ z => z.elim⟩
    · rcases hS with (hS | hS) | hS
      · rcases hO a with z | ⟨o, xs, z⟩
        · rw [hS] at z; cases z
        · rw [hS] at z; cases z
      · exact .inl hS
      · exact .inr hS
    · subst qv
      exact r
  · obtain ⟨_, _, _, _, _, _, _, _, _, _, _, _, z⟩ := z
    exact z
end Z
namespace Z
open PySem PySem.Spec PyProof.Rows L2
/- 0 is_int [x] -/
def b_is_int : IB := .cons (.ret (.and (.isi (.v 0) "int") (.not (.isi (.v 0) "bool"))))
  (.nil)
structure H_is_int (W : Wd) : Prop where
  f_is_int : W.fb.lookup 0 = some ⟨1, 1, b_is_int⟩
/- 1 within [x, low, high] -/
def b_within : IB := .cons (.ret (.and (.call 0 (.cons (.v 0) (.nil))) (.chn .le .le (.v 1) (.v 0) (.v 2))))
  (.nil)
structure H_within (W : Wd) : Prop where
  f_within : W.fb.lookup 1 = some ⟨3, 3, b_within⟩
  h_is_int : H_is_int W
/- 2 is_tuple [thing, least, most] -/
def b_is_tuple : IB := .cons (.ret (.and (.isi (.v 0) "tuple") (.chn .le .le (.v 1) (.bi .len (.cons (.v 0) (.nil))) (.v 2))))
  (.nil)
structure H_is_tuple (W : Wd) : Prop where
  f_is_tuple : W.fb.lookup 2 = some ⟨3, 3, b_is_tuple⟩
/- 3 is_name [x, sign] -/
def b_is_name : IB := .cons (.ifs (.or (.not (.isi (.v 0) "str")) (.or (.not (.chn .le .le (.c (.int 1)) (.bi .len (.cons (.v 0) (.nil))) (.g 4))) (.cmp .inn (.v 0) (.g 3)))) (.cons (.ret (.c (.bl false)))
  (.nil)) (.nil))
  (.cons (.ifs (.cmp .nin (.ix (.v 0) (.c (.int 0))) (.g 0)) (.cons (.ret (.c (.bl false)))
  (.nil)) (.nil))
  (.cons (.ret (.bi .all (.cons (.lc (.seq (.v 0)) (.n 1) (.nil) (.or (.cmp .inn (.v 1) (.g 0)) (.cmp .inn (.v 1) (.g 2))) [("sign", 1)]) (.nil))))
  (.nil)))
structure H_is_name (W : Wd) : Prop where
  f_is_name : W.fb.lookup 3 = some ⟨1, 2, b_is_name⟩
  c_DIGITS : W.con 2 = .str "0123456789"
  c_LETTERS : W.con 0 = .str "abcdefghijklmnopqrstuvwxyzABCDEFGHIJKLMNOPQRSTUVWXYZ"
  c_LONGEST_NAME : W.con 4 = .int 10
  c_WORDS : W.con 3 = .tup [.str "def", .str "else", .str "fn", .str "give", .str "if", .str "kind", .str "let", .str "match", .str "whole"]
/- 4 is_low [x] -/
def b_is_low : IB := .cons (.ret (.and (.call 3 (.cons (.v 0) (.nil))) (.cmp .inn (.ix (.v 0) (.c (.int 0))) (.g 1))))
  (.nil)
structure H_is_low (W : Wd) : Prop where
  f_is_low : W.fb.lookup 4 = some ⟨1, 1, b_is_low⟩
  c_SMALL : W.con 1 = .str "abcdefghijklmnopqrstuvwxyz"
  h_is_name : H_is_name W
/- 5 is_high [x] -/
def b_is_high : IB := .cons (.ret (.and (.call 3 (.cons (.v 0) (.nil))) (.cmp .nin (.ix (.v 0) (.c (.int 0))) (.g 1))))
  (.nil)
structure H_is_high (W : Wd) : Prop where
  f_is_high : W.fb.lookup 5 = some ⟨1, 1, b_is_high⟩
  c_SMALL : W.con 1 = .str "abcdefghijklmnopqrstuvwxyz"
  h_is_name : H_is_name W
/- 6 is_free_name [x] -/
def b_is_free_name : IB := .cons (.ret (.and (.call 5 (.cons (.v 0) (.nil))) (.cmp .ne (.sl (.v 0) (.none) (.some (.c (.int 2)))) (.c (.str "Fn")))))
  (.nil)
structure H_is_free_name (W : Wd) : Prop where
  f_is_free_name : W.fb.lookup 6 = some ⟨1, 1, b_is_free_name⟩
  h_is_high : H_is_high W
/- 7 is_kind_name [x] -/
def b_is_kind_name : IB := .cons (.ret (.or (.call 5 (.cons (.v 0) (.nil))) (.and (.isi (.v 0) "str") (.cmp .eq (.v 0) (.c (.str "whole"))))))
  (.nil)
structure H_is_kind_name (W : Wd) : Prop where
  f_is_kind_name : W.fb.lookup 7 = some ⟨1, 1, b_is_kind_name⟩
  h_is_high : H_is_high W
/- 8 is_type [thing, deepest] -/
def b_is_type : IB := .cons (.ifs (.isi (.v 0) "str") (.cons (.ret (.call 7 (.cons (.v 0) (.nil))))
  (.nil)) (.nil))
  (.cons (.ifs (.or (.cmp .lt (.v 1) (.c (.int 2))) (.or (.not (.call 2 (.cons (.v 0) (.cons (.c (.int 3)) (.cons (.c (.int 3)) (.nil)))))) (.or (.not (.isi (.ix (.v 0) (.c (.int 0))) "str")) (.cmp .ne (.ix (.v 0) (.c (.int 0))) (.c (.str "to")))))) (.cons (.ret (.c (.bl false)))
  (.nil)) (.nil))
  (.cons (.ret (.and (.call 8 (.cons (.ix (.v 0) (.c (.int 1))) (.cons (.b2 .sub (.v 1) (.c (.int 1))) (.nil)))) (.call 8 (.cons (.ix (.v 0) (.c (.int 2))) (.cons (.b2 .sub (.v 1) (.c (.int 1))) (.nil))))))
  (.nil)))
structure H_is_type (W : Wd) : Prop where
  f_is_type : W.fb.lookup 8 = some ⟨2, 2, b_is_type⟩
  h_is_kind_name : H_is_kind_name W
  h_is_tuple : H_is_tuple W
/- 9 is_maker [thing, field] -/
def b_is_maker : IB := .cons (.ifs (.or (.not (.call 2 (.cons (.v 0) (.cons (.c (.int 2)) (.cons (.c (.int 2)) (.nil)))))) (.not (.call 6 (.cons (.ix (.v 0) (.c (.int 0))) (.nil))))) (.cons (.ret (.c (.bl false)))
  (.nil)) (.nil))
  (.cons (.ifs (.not (.call 2 (.cons (.ix (.v 0) (.c (.int 1))) (.cons (.c (.int 0)) (.cons (.g 9) (.nil)))))) (.cons (.ret (.c (.bl false)))
  (.nil)) (.nil))
  (.cons (.ret (.bi .all (.cons (.lc (.seq (.ix (.v 0) (.c (.int 1)))) (.n 1) (.nil) (.call 8 (.cons (.v 1) (.cons (.g 14) (.nil)))) [("field", 1)]) (.nil))))
  (.nil)))
structure H_is_maker (W : Wd) : Prop where
  f_is_maker : W.fb.lookup 9 = some ⟨1, 2, b_is_maker⟩
  c_DEEPEST_TYPE : W.con 14 = .int 6
  c_MOST_FIELDS : W.con 9 = .int 5
  h_is_free_name : H_is_free_name W
  h_is_tuple : H_is_tuple W
  h_is_type : H_is_type W
/- 10 are_program_kinds [thing, entry, maker] -/
def b_are_program_kinds : IB := .cons (.ifs (.not (.call 2 (.cons (.v 0) (.cons (.c (.int 0)) (.cons (.g 7) (.nil)))))) (.cons (.ret (.c (.bl false)))
  (.nil)) (.nil))
  (.cons (.for_ (.seq (.v 0)) (.n 1) (.cons (.ifs (.or (.not (.call 2 (.cons (.v 1) (.cons (.c (.int 2)) (.cons (.c (.int 2)) (.nil)))))) (.not (.call 6 (.cons (.ix (.v 1) (.c (.int 0))) (.nil))))) (.cons (.ret (.c (.bl false)))
  (.nil)) (.nil))
  (.cons (.ifs (.not (.call 2 (.cons (.ix (.v 1) (.c (.int 1))) (.cons (.c (.int 1)) (.cons (.g 8) (.nil)))))) (.cons (.ret (.c (.bl false)))
  (.nil)) (.nil))
  (.cons (.ifs (.not (.bi .all (.cons (.lc (.seq (.ix (.v 1) (.c (.int 1)))) (.n 2) (.nil) (.call 9 (.cons (.v 2) (.nil))) [("maker", 2)]) (.nil)))) (.cons (.ret (.c (.bl false)))
  (.nil)) (.nil))
  (.nil)))))
  (.cons (.ret (.c (.bl true)))
  (.nil)))
structure H_are_program_kinds (W : Wd) : Prop where
  f_are_program_kinds : W.fb.lookup 10 = some ⟨1, 3, b_are_program_kinds⟩
  c_MOST_KINDS : W.con 7 = .int 8
  c_MOST_MAKERS : W.con 8 = .int 8
  h_is_free_name : H_is_free_name W
  h_is_maker : H_is_maker W
  h_is_tuple : H_is_tuple W
/- 11 Meter.__init__ [self] -/
def b_Meter_init : IB := .cons (.setf (.v 0) "spare" (.g 12))
  (.nil)
structure H_Meter_init (W : Wd) : Prop where
  f_Meter_init : W.fb.lookup 11 = some ⟨1, 1, b_Meter_init⟩
  c_MOST_PARTS : W.con 12 = .int 100
  ini_Meter : W.ini 0 = 11
  a_0_spare : W.fok 0 "spare" = true
/- 12 Meter.take [self, many] -/
def b_Meter_take : IB := .cons (.augf (.v 0) "spare" .sub (.v 1))
  (.cons (.ret (.cmp .ge (.fld (.v 0) "spare") (.c (.int 0))))
  (.nil))
structure H_Meter_take (W : Wd) : Prop where
  f_Meter_take : W.fb.lookup 12 = some ⟨2, 2, b_Meter_take⟩
  ini_Meter : W.ini 0 = 11
  a_0_spare : W.fok 0 "spare" = true
/- 13 is_expression [thing, deep, meter, word] -/
def b_is_expression : IB := .cons (.ifs (.or (.cmp .gt (.v 1) (.g 13)) (.or (.not (.call 2 (.cons (.v 0) (.cons (.c (.int 2)) (.cons (.c (.int 4)) (.nil)))))) (.not (.meth "take" (.v 2) (.cons (.c (.int 1)) (.nil)))))) (.cons (.ret (.c (.bl false)))
  (.nil)) (.nil))
  (.cons (.setv 3 (.ix (.v 0) (.c (.int 0))))
  (.cons (.ifs (.cmp .eq (.v 3) (.c (.str "num"))) (.cons (.ret (.and (.cmp .eq (.bi .len (.cons (.v 0) (.nil))) (.c (.int 2))) (.call 1 (.cons (.ix (.v 0) (.c (.int 1))) (.cons (.neg (.g 5)) (.cons (.g 5) (.nil)))))))
  (.nil)) (.nil))
  (.cons (.ifs (.cmp .eq (.v 3) (.c (.str "name"))) (.cons (.ret (.and (.cmp .eq (.bi .len (.cons (.v 0) (.nil))) (.c (.int 2))) (.call 4 (.cons (.ix (.v 0) (.c (.int 1))) (.nil)))))
  (.nil)) (.nil))
  (.cons (.ifs (.cmp .eq (.v 3) (.c (.str "op"))) (.cons (.ifs (.or (.cmp .ne (.bi .len (.cons (.v 0) (.nil))) (.c (.int 4))) (.cmp .nin (.ix (.v 0) (.c (.int 1))) (.tup (.cons (.c (.str "+")) (.cons (.c (.str "-")) (.nil)))))) (.cons (.ret (.c (.bl false)))
  (.nil)) (.nil))
  (.cons (.ret (.and (.call 13 (.cons (.ix (.v 0) (.c (.int 2))) (.cons (.b2 .add (.v 1) (.c (.int 1))) (.cons (.v 2) (.nil))))) (.call 13 (.cons (.ix (.v 0) (.c (.int 3))) (.cons (.b2 .add (.v 1) (.c (.int 1))) (.cons (.v 2) (.nil)))))))
  (.nil))) (.nil))
  (.cons (.ifs (.cmp .ne (.bi .len (.cons (.v 0) (.nil))) (.c (.int 3))) (.cons (.ret (.c (.bl false)))
  (.nil)) (.nil))
  (.cons (.ifs (.cmp .eq (.v 3) (.c (.str "times"))) (.cons (.ret (.and (.call 1 (.cons (.ix (.v 0) (.c (.int 1))) (.cons (.neg (.g 6)) (.cons (.g 6) (.nil))))) (.call 13 (.cons (.ix (.v 0) (.c (.int 2))) (.cons (.b2 .add (.v 1) (.c (.int 1))) (.cons (.v 2) (.nil)))))))
  (.nil)) (.nil))
  (.cons (.ifs (.cmp .eq (.v 3) (.c (.str "make"))) (.cons (.ret (.and (.call 6 (.cons (.ix (.v 0) (.c (.int 1))) (.nil))) (.call 14 (.cons (.ix (.v 0) (.c (.int 2))) (.cons (.v 1) (.cons (.v 2) (.nil)))))))
  (.nil)) (.nil))
  (.cons (.ifs (.cmp .eq (.v 3) (.c (.str "fn"))) (.cons (.ret (.and (.call 4 (.cons (.ix (.v 0) (.c (.int 1))) (.nil))) (.and (.meth "take" (.v 2) (.cons (.c (.int 1)) (.nil))) (.call 16 (.cons (.ix (.v 0) (.c (.int 2))) (.cons (.b2 .add (.v 1) (.c (.int 1))) (.cons (.v 2) (.nil))))))))
  (.nil)) (.nil))
  (.cons (.ifs (.cmp .ne (.v 3) (.c (.str "app"))) (.cons (.ret (.c (.bl false)))
  (.nil)) (.nil))
  (.cons (.ret (.and (.call 13 (.cons (.ix (.v 0) (.c (.int 1))) (.cons (.b2 .add (.v 1) (.c (.int 1))) (.cons (.v 2) (.nil))))) (.call 13 (.cons (.ix (.v 0) (.c (.int 2))) (.cons (.b2 .add (.v 1) (.c (.int 1))) (.cons (.v 2) (.nil)))))))
  (.nil)))))))))))
/- 14 are_args [thing, deep, meter, arg] -/
def b_are_args : IB := .cons (.ifs (.not (.call 2 (.cons (.v 0) (.cons (.c (.int 0)) (.cons (.g 9) (.nil)))))) (.cons (.ret (.c (.bl false)))
  (.nil)) (.nil))
  (.cons (.for_ (.seq (.v 0)) (.n 3) (.cons (.ifs (.not (.call 13 (.cons (.v 3) (.cons (.b2 .add (.v 1) (.c (.int 1))) (.cons (.v 2) (.nil)))))) (.cons (.ret (.c (.bl false)))
  (.nil)) (.nil))
  (.nil)))
  (.cons (.ret (.c (.bl true)))
  (.nil)))
/- 15 is_branch [thing, deep, meter, name] -/
def b_is_branch : IB := .cons (.ifs (.or (.not (.call 2 (.cons (.v 0) (.cons (.c (.int 3)) (.cons (.c (.int 3)) (.nil)))))) (.or (.not (.call 6 (.cons (.ix (.v 0) (.c (.int 0))) (.nil)))) (.not (.call 2 (.cons (.ix (.v 0) (.c (.int 1))) (.cons (.c (.int 0)) (.cons (.g 9) (.nil)))))))) (.cons (.ret (.c (.bl false)))
  (.nil)) (.nil))
  (.cons (.ifs (.or (.not (.bi .all (.cons (.lc (.seq (.ix (.v 0) (.c (.int 1)))) (.n 3) (.nil) (.call 4 (.cons (.v 3) (.nil))) [("name", 3)]) (.nil)))) (.not (.meth "take" (.v 2) (.cons (.bi .len (.cons (.ix (.v 0) (.c (.int 1))) (.nil))) (.nil))))) (.cons (.ret (.c (.bl false)))
  (.nil)) (.nil))
  (.cons (.ret (.call 16 (.cons (.ix (.v 0) (.c (.int 2))) (.cons (.b2 .add (.v 1) (.c (.int 1))) (.cons (.v 2) (.nil))))))
  (.nil)))
/- 16 is_body [thing, deep, meter, word, branch] -/
def b_is_body : IB := .cons (.ifs (.or (.cmp .gt (.v 1) (.g 13)) (.or (.not (.call 2 (.cons (.v 0) (.cons (.c (.int 2)) (.cons (.c (.int 5)) (.nil)))))) (.not (.meth "take" (.v 2) (.cons (.c (.int 1)) (.nil)))))) (.cons (.ret (.c (.bl false)))
  (.nil)) (.nil))
  (.cons (.setv 3 (.ix (.v 0) (.c (.int 0))))
  (.cons (.ifs (.cmp .eq (.v 3) (.c (.str "give"))) (.cons (.ret (.and (.cmp .eq (.bi .len (.cons (.v 0) (.nil))) (.c (.int 2))) (.call 13 (.cons (.ix (.v 0) (.c (.int 1))) (.cons (.b2 .add (.v 1) (.c (.int 1))) (.cons (.v 2) (.nil)))))))
  (.nil)) (.nil))
  (.cons (.ifs (.cmp .eq (.v 3) (.c (.str "let"))) (.cons (.ifs (.or (.cmp .ne (.bi .len (.cons (.v 0) (.nil))) (.c (.int 4))) (.or (.not (.call 4 (.cons (.ix (.v 0) (.c (.int 1))) (.nil)))) (.not (.meth "take" (.v 2) (.cons (.c (.int 1)) (.nil)))))) (.cons (.ret (.c (.bl false)))
  (.nil)) (.nil))
  (.cons (.ret (.and (.call 13 (.cons (.ix (.v 0) (.c (.int 2))) (.cons (.b2 .add (.v 1) (.c (.int 1))) (.cons (.v 2) (.nil))))) (.call 16 (.cons (.ix (.v 0) (.c (.int 3))) (.cons (.b2 .add (.v 1) (.c (.int 1))) (.cons (.v 2) (.nil)))))))
  (.nil))) (.nil))
  (.cons (.ifs (.cmp .eq (.v 3) (.c (.str "if"))) (.cons (.ifs (.or (.cmp .ne (.bi .len (.cons (.v 0) (.nil))) (.c (.int 5))) (.not (.call 13 (.cons (.ix (.v 0) (.c (.int 1))) (.cons (.b2 .add (.v 1) (.c (.int 1))) (.cons (.v 2) (.nil))))))) (.cons (.ret (.c (.bl false)))
  (.nil)) (.nil))
  (.cons (.ifs (.not (.call 13 (.cons (.ix (.v 0) (.c (.int 2))) (.cons (.b2 .add (.v 1) (.c (.int 1))) (.cons (.v 2) (.nil)))))) (.cons (.ret (.c (.bl false)))
  (.nil)) (.nil))
  (.cons (.ret (.and (.call 16 (.cons (.ix (.v 0) (.c (.int 3))) (.cons (.b2 .add (.v 1) (.c (.int 1))) (.cons (.v 2) (.nil))))) (.call 16 (.cons (.ix (.v 0) (.c (.int 4))) (.cons (.b2 .add (.v 1) (.c (.int 1))) (.cons (.v 2) (.nil)))))))
  (.nil)))) (.nil))
  (.cons (.ifs (.or (.cmp .ne (.v 3) (.c (.str "match"))) (.or (.cmp .ne (.bi .len (.cons (.v 0) (.nil))) (.c (.int 3))) (.not (.call 13 (.cons (.ix (.v 0) (.c (.int 1))) (.cons (.b2 .add (.v 1) (.c (.int 1))) (.cons (.v 2) (.nil)))))))) (.cons (.ret (.c (.bl false)))
  (.nil)) (.nil))
  (.cons (.ifs (.not (.call 2 (.cons (.ix (.v 0) (.c (.int 2))) (.cons (.c (.int 1)) (.cons (.g 8) (.nil)))))) (.cons (.ret (.c (.bl false)))
  (.nil)) (.nil))
  (.cons (.for_ (.seq (.ix (.v 0) (.c (.int 2)))) (.n 4) (.cons (.ifs (.not (.call 15 (.cons (.v 4) (.cons (.v 1) (.cons (.v 2) (.nil)))))) (.cons (.ret (.c (.bl false)))
  (.nil)) (.nil))
  (.nil)))
  (.cons (.ret (.c (.bl true)))
  (.nil)))))))))
structure H_is_expression (W : Wd) : Prop where
  f_is_expression : W.fb.lookup 13 = some ⟨3, 4, b_is_expression⟩
  f_are_args : W.fb.lookup 14 = some ⟨3, 4, b_are_args⟩
  f_is_branch : W.fb.lookup 15 = some ⟨3, 4, b_is_branch⟩
  f_is_body : W.fb.lookup 16 = some ⟨3, 5, b_is_body⟩
  c_GREATEST_FACTOR : W.con 6 = .int 1000000
  c_GREATEST_NUMBER : W.con 5 = .int 1000000000000
  c_LONGEST_CHAIN : W.con 13 = .int 30
  c_MOST_FIELDS : W.con 9 = .int 5
  c_MOST_MAKERS : W.con 8 = .int 8
  m_Meter_take : W.mth 0 "take" = some 12
  h_meter_take : H_Meter_take W
  h_is_free_name : H_is_free_name W
  h_is_low : H_is_low W
  h_is_tuple : H_is_tuple W
  h_within : H_within W
/- 17 is_def [thing, param] -/
def b_is_def : IB := .cons (.ifs (.or (.not (.call 2 (.cons (.v 0) (.cons (.c (.int 3)) (.cons (.c (.int 3)) (.nil)))))) (.or (.not (.call 4 (.cons (.ix (.v 0) (.c (.int 0))) (.nil)))) (.not (.call 2 (.cons (.ix (.v 0) (.c (.int 1))) (.cons (.c (.int 0)) (.cons (.g 11) (.nil)))))))) (.cons (.ret (.c (.bl false)))
  (.nil)) (.nil))
  (.cons (.ret (.and (.bi .all (.cons (.lc (.seq (.ix (.v 0) (.c (.int 1)))) (.n 1) (.nil) (.call 4 (.cons (.v 1) (.nil))) [("param", 1)]) (.nil))) (.call 16 (.cons (.ix (.v 0) (.c (.int 2))) (.cons (.c (.int 1)) (.cons (.new 0 (.nil)) (.nil)))))))
  (.nil))
structure H_is_def (W : Wd) : Prop where
  f_is_def : W.fb.lookup 17 = some ⟨1, 2, b_is_def⟩
  c_MOST_PARAMS : W.con 11 = .int 6
  ini_Meter : W.ini 0 = 11
  h_meter_init : H_Meter_init W
  h_is_expression : H_is_expression W
  h_is_low : H_is_low W
  h_is_tuple : H_is_tuple W
/- 18 is_tree [thing, entry] -/
def b_is_tree : IB := .cons (.ifs (.or (.not (.call 2 (.cons (.v 0) (.cons (.c (.int 2)) (.cons (.c (.int 2)) (.nil)))))) (.not (.call 10 (.cons (.ix (.v 0) (.c (.int 0))) (.nil))))) (.cons (.ret (.c (.bl false)))
  (.nil)) (.nil))
  (.cons (.ifs (.not (.call 2 (.cons (.ix (.v 0) (.c (.int 1))) (.cons (.c (.int 0)) (.cons (.g 10) (.nil)))))) (.cons (.ret (.c (.bl false)))
  (.nil)) (.nil))
  (.cons (.ret (.bi .all (.cons (.lc (.seq (.ix (.v 0) (.c (.int 1)))) (.n 1) (.nil) (.call 17 (.cons (.v 1) (.nil))) [("entry", 1)]) (.nil))))
  (.nil)))
structure H_is_tree (W : Wd) : Prop where
  f_is_tree : W.fb.lookup 18 = some ⟨1, 2, b_is_tree⟩
  c_MOST_DEFS : W.con 10 = .int 12
  h_are_program_kinds : H_are_program_kinds W
  h_is_def : H_is_def W
  h_is_tuple : H_is_tuple W
/- 19 is_program [thing] -/
def b_is_program : IB := .cons (.ret (.call 18 (.cons (.v 0) (.nil))))
  (.nil)
structure H_is_program (W : Wd) : Prop where
  f_is_program : W.fb.lookup 19 = some ⟨1, 1, b_is_program⟩
  h_is_tree : H_is_tree W
/- 20 _law_urn [script, mixed, cell] -/
def b__law_urn : IB := .cons (.setv 1 (.c (.int 41)))
  (.cons (.for_ (.seq (.sl (.v 0) (.none) (.some (.c (.int 63))))) (.n 2) (.cons (.setv 1 (.b2 .mod (.bi .int (.cons (.b2 .add (.b2 .add (.b2 .mul (.v 1) (.c (.int 48271))) (.b2 .mod (.bi .int (.cons (.v 2) (.nil))) (.c (.int 2147483629)))) (.c (.int 13))) (.nil))) (.c (.int 2147483647))))
  (.nil)))
  (.cons (.ret (.lst (.cons (.lc (.seq (.sl (.v 0) (.none) (.some (.c (.int 63))))) (.n 2) (.cons (.cmp .ge (.v 2) (.b2 .pow (.c (.int 10)) (.c (.int 18)))) (.nil)) (.bi .int (.cons (.v 2) (.nil))) [("cell", 2)]) (.cons (.c (.int 0)) (.cons (.v 1) (.cons (.c (.int 0)) (.cons (.c (.bl false)) (.cons (.c (.int 30)) (.nil)))))))))
  (.nil)))
structure H__law_urn (W : Wd) : Prop where
  f__law_urn : W.fb.lookup 20 = some ⟨1, 3, b__law_urn⟩
/- 21 _law_ball [urn, many, found] -/
def b__law_ball : IB := .cons (.ifs (.and (.cmp .eq (.ix (.v 0) (.c (.int 1))) (.c (.int 0))) (.cmp .ne (.ix (.v 0) (.c (.int 0))) (.lst (.nil)))) (.cons (.sets (.v 0) (.c (.int 1)) (.b2 .sub (.bm .pop (.ix (.v 0) (.c (.int 0))) (.cons (.c (.int 0)) (.nil))) (.b2 .pow (.c (.int 10)) (.c (.int 18)))))
  (.nil)) (.nil))
  (.cons (.ifs (.cmp .gt (.ix (.v 0) (.c (.int 1))) (.c (.int 0))) (.cons (.setv 2 (.b2 .mod (.bi .int (.cons (.ix (.v 0) (.c (.int 1))) (.nil))) (.v 1)))
  (.cons (.sets (.v 0) (.c (.int 1)) (.b2 .fdiv (.ix (.v 0) (.c (.int 1))) (.v 1)))
  (.cons (.ret (.v 2))
  (.nil)))) (.nil))
  (.cons (.sets (.v 0) (.c (.int 3)) (.b2 .add (.ix (.v 0) (.c (.int 3))) (.c (.int 1))))
  (.cons (.sets (.v 0) (.c (.int 2)) (.b2 .mod (.bi .int (.cons (.b2 .add (.b2 .add (.b2 .mul (.ix (.v 0) (.c (.int 2))) (.c (.int 69621))) (.b2 .mul (.b2 .mul (.ix (.v 0) (.c (.int 3))) (.ix (.v 0) (.c (.int 3)))) (.c (.int 40014)))) (.c (.int 91))) (.nil))) (.c (.int 2147483563))))
  (.cons (.ret (.b2 .mod (.b2 .fdiv (.b2 .mod (.bi .int (.cons (.b2 .mul (.ix (.v 0) (.c (.int 2))) (.b2 .add (.b2 .fdiv (.ix (.v 0) (.c (.int 2))) (.c (.int 64))) (.c (.int 7)))) (.nil))) (.c (.int 2147483399))) (.c (.int 16))) (.v 1)))
  (.nil)))))
structure H__law_ball (W : Wd) : Prop where
  f__law_ball : W.fb.lookup 21 = some ⟨2, 3, b__law_ball⟩
/- 22 _law_same [found, owed, k] -/
def b__law_same : IB := .cons (.ifs (.isi (.v 1) "tuple") (.cons (.ifs (.or (.not (.isi (.v 0) "tuple")) (.cmp .ne (.bi .len (.cons (.v 0) (.nil))) (.bi .len (.cons (.v 1) (.nil))))) (.cons (.ret (.c (.bl false)))
  (.nil)) (.nil))
  (.cons (.ret (.cmp .eq (.lc (.rng1 (.bi .len (.cons (.v 1) (.nil)))) (.n 2) (.cons (.not (.call 22 (.cons (.ix (.v 0) (.v 2)) (.cons (.ix (.v 1) (.v 2)) (.nil))))) (.nil)) (.v 2) [("k", 2)]) (.lst (.nil))))
  (.nil))) (.nil))
  (.cons (.ifs (.or (.cmp .isN (.v 1) (.c (.non))) (.isi (.v 1) "bool")) (.cons (.ret (.or (.and (.cmp .isN (.v 0) (.c (.non))) (.cmp .isN (.v 1) (.c (.non)))) (.and (.isi (.v 0) "bool") (.cmp .eq (.v 0) (.v 1)))))
  (.nil)) (.nil))
  (.cons (.ifs (.isi (.v 1) "str") (.cons (.ret (.and (.isi (.v 0) "str") (.cmp .eq (.v 0) (.v 1))))
  (.nil)) (.nil))
  (.cons (.ret (.and (.isi (.v 0) "int") (.and (.not (.isi (.v 0) "bool")) (.cmp .eq (.v 0) (.v 1)))))
  (.nil))))
structure H__law_same (W : Wd) : Prop where
  f__law_same : W.fb.lookup 22 = some ⟨2, 3, b__law_same⟩
/- 23 _law_sort [word, small, large, sign] -/
def b__law_sort : IB := .cons (.sett [1, 2] (.tup (.cons (.c (.str "abcdefghijklmnopqrstuvwxyz")) (.cons (.c (.str "ABCDEFGHIJKLMNOPQRSTUVWXYZ")) (.nil)))))
  (.cons (.ifs (.or (.not (.isi (.v 0) "str")) (.not (.chn .le .le (.c (.int 1)) (.bi .len (.cons (.v 0) (.nil))) (.c (.int 10))))) (.cons (.ret (.c (.str "")))
  (.nil)) (.nil))
  (.cons (.ifs (.or (.cmp .ne (.lc (.seq (.v 0)) (.n 3) (.cons (.cmp .nin (.v 3) (.b2 .add (.b2 .add (.v 1) (.v 2)) (.c (.str "0123456789")))) (.nil)) (.v 3) [("sign", 3)]) (.lst (.nil))) (.cmp .inn (.ix (.v 0) (.c (.int 0))) (.c (.str "0123456789")))) (.cons (.ret (.c (.str "")))
  (.nil)) (.nil))
  (.cons (.ifs (.cmp .inn (.ix (.v 0) (.c (.int 0))) (.v 1)) (.cons (.ret (.ite (.cmp .inn (.v 0) (.lst (.cons (.c (.str "def")) (.cons (.c (.str "else")) (.cons (.c (.str "fn")) (.cons (.c (.str "give")) (.cons (.c (.str "if")) (.cons (.c (.str "kind")) (.cons (.c (.str "let")) (.cons (.c (.str "match")) (.cons (.c (.str "whole")) (.nil)))))))))))) (.c (.str "")) (.c (.str "low"))))
  (.nil)) (.nil))
  (.cons (.ret (.ite (.cmp .eq (.sl (.v 0) (.none) (.some (.c (.int 2)))) (.c (.str "Fn"))) (.c (.str "high")) (.c (.str "free"))))
  (.nil)))))
structure H__law_sort (W : Wd) : Prop where
  f__law_sort : W.fb.lookup 23 = some ⟨1, 4, b__law_sort⟩
/- 24 _law_string [urn, way, signs, text, k, some] -/
def b__law_string : IB := .cons (.setv 1 (.call 21 (.cons (.v 0) (.cons (.c (.int 6)) (.nil)))))
  (.cons (.ifs (.cmp .eq (.v 1) (.c (.int 0))) (.cons (.setv 3 (.c (.str "def else fn give if kind let match whole Fn Fn0 Fnx FN fN F f W Whole defs de _ x_ x-y X.Y 0 7a a7 A0")))
  (.cons (.setv 5 (.bm .split (.v 3) (.cons (.c (.str " ")) (.nil))))
  (.cons (.ret (.ix (.v 5) (.call 21 (.cons (.v 0) (.cons (.bi .len (.cons (.v 5) (.nil))) (.nil))))))
  (.nil)))) (.nil))
  (.cons (.setv 2 (.lst (.cons (.c (.str "abcdefghijklmnopqrstuvwxyz")) (.cons (.c (.str "ABCDEFGHIJKLMNOPQRSTUVWXYZ")) (.cons (.c (.str "0123456789")) (.cons (.c (.str "_-. +*<>()[]{}:;,=?!")) (.nil)))))))
  (.cons (.setv 3 (.ix (.lst (.cons (.c (.str "")) (.cons (.c (.str "Fn")) (.cons (.c (.str "F")) (.cons (.c (.str "whole")) (.cons (.c (.str "fn")) (.nil))))))) (.bi .max (.cons (.c (.int 0)) (.cons (.b2 .sub (.v 1) (.c (.int 1))) (.nil))))))
  (.cons (.for_ (.rng1 (.ix (.lst (.cons (.b2 .add (.c (.int 1)) (.call 21 (.cons (.v 0) (.cons (.c (.int 3)) (.nil))))) (.cons (.call 21 (.cons (.v 0) (.cons (.c (.int 13)) (.nil)))) (.nil)))) (.call 21 (.cons (.v 0) (.cons (.c (.int 2)) (.nil)))))) (.n 4) (.cons (.setv 5 (.ix (.v 2) (.ix (.lst (.cons (.c (.int 0)) (.cons (.c (.int 0)) (.cons (.c (.int 1)) (.cons (.c (.int 1)) (.cons (.c (.int 2)) (.cons (.c (.int 2)) (.cons (.c (.int 0)) (.cons (.c (.int 1)) (.cons (.c (.int 3)) (.nil))))))))))) (.call 21 (.cons (.v 0) (.cons (.c (.int 9)) (.nil)))))))
  (.cons (.setv 3 (.b2 .add (.v 3) (.ix (.v 5) (.call 21 (.cons (.v 0) (.cons (.bi .len (.cons (.v 5) (.nil))) (.nil)))))))
  (.nil))))
  (.cons (.ret (.v 3))
  (.nil))))))
structure H__law_string (W : Wd) : Prop where
  f__law_string : W.fb.lookup 24 = some ⟨1, 6, b__law_string⟩
  h__law_ball : H__law_ball W
/- 25 _law_placed [word, one, found, bodies, n, free, low, body, sorts] -/
def b__law_placed : IB := .cons (.sett [4, 5, 6] (.tup (.cons (.tup (.cons (.c (.str "num")) (.cons (.c (.int 1)) (.nil)))) (.cons (.tup (.cons (.c (.str "free")) (.nil))) (.cons (.tup (.cons (.c (.str "low")) (.nil))) (.nil))))))
  (.cons (.setv 1 (.tup (.cons (.c (.str "give")) (.cons (.v 4) (.nil)))))
  (.cons (.setv 2 (.lst (.cons (.tup (.cons (.tup (.cons (.tup (.cons (.v 0) (.cons (.tup (.cons (.tup (.cons (.c (.str "M")) (.cons (.tup (.nil)) (.nil)))) (.nil))) (.nil)))) (.nil))) (.cons (.tup (.nil)) (.cons (.v 5) (.nil))))) (.cons (.tup (.cons (.tup (.cons (.tup (.cons (.c (.str "K")) (.cons (.tup (.cons (.tup (.cons (.v 0) (.cons (.tup (.nil)) (.nil)))) (.nil))) (.nil)))) (.nil))) (.cons (.tup (.nil)) (.cons (.v 5) (.nil))))) (.nil)))))
  (.cons (.expr (.bm .append (.v 2) (.cons (.tup (.cons (.tup (.cons (.tup (.cons (.c (.str "K")) (.cons (.tup (.cons (.tup (.cons (.c (.str "M")) (.cons (.tup (.cons (.v 0) (.nil))) (.nil)))) (.nil))) (.nil)))) (.nil))) (.cons (.tup (.nil)) (.cons (.tup (.cons (.c (.str "free")) (.cons (.c (.str "high")) (.nil)))) (.nil))))) (.nil))))
  (.cons (.expr (.bm .append (.v 2) (.cons (.tup (.cons (.tup (.cons (.tup (.cons (.c (.str "K")) (.cons (.tup (.cons (.tup (.cons (.c (.str "M")) (.cons (.tup (.cons (.tup (.cons (.c (.str "to")) (.cons (.c (.str "whole")) (.cons (.v 0) (.nil))))) (.nil))) (.nil)))) (.nil))) (.nil)))) (.nil))) (.cons (.tup (.nil)) (.cons (.tup (.cons (.c (.str "free")) (.cons (.c (.str "high")) (.nil)))) (.nil))))) (.nil))))
  (.cons (.setv 3 (.lst (.cons (.tup (.cons (.tup (.cons (.c (.str "let")) (.cons (.v 0) (.cons (.v 4) (.cons (.v 1) (.nil)))))) (.cons (.v 6) (.nil)))) (.cons (.tup (.cons (.tup (.cons (.c (.str "give")) (.cons (.tup (.cons (.c (.str "name")) (.cons (.v 0) (.nil)))) (.nil)))) (.cons (.v 6) (.nil)))) (.cons (.tup (.cons (.tup (.cons (.c (.str "give")) (.cons (.tup (.cons (.c (.str "fn")) (.cons (.v 0) (.cons (.v 1) (.nil))))) (.nil)))) (.cons (.v 6) (.nil)))) (.nil))))))
  (.cons (.setv 3 (.b2 .add (.v 3) (.lst (.cons (.tup (.cons (.tup (.cons (.c (.str "match")) (.cons (.v 4) (.cons (.tup (.cons (.tup (.cons (.c (.str "M")) (.cons (.tup (.cons (.c (.str "x")) (.cons (.v 0) (.nil)))) (.cons (.v 1) (.nil))))) (.nil))) (.nil))))) (.cons (.v 6) (.nil)))) (.cons (.tup (.cons (.tup (.cons (.c (.str "match")) (.cons (.v 4) (.cons (.tup (.cons (.tup (.cons (.v 0) (.cons (.tup (.nil)) (.cons (.v 1) (.nil))))) (.nil))) (.nil))))) (.cons (.v 5) (.nil)))) (.nil))))))
  (.cons (.expr (.bm .append (.v 3) (.cons (.tup (.cons (.tup (.cons (.c (.str "give")) (.cons (.tup (.cons (.c (.str "make")) (.cons (.v 0) (.cons (.tup (.cons (.v 4) (.nil))) (.nil))))) (.nil)))) (.cons (.v 5) (.nil)))) (.nil))))
  (.cons (.setv 2 (.b2 .add (.v 2) (.lst (.cons (.tup (.cons (.tup (.nil)) (.cons (.tup (.cons (.tup (.cons (.v 0) (.cons (.tup (.nil)) (.cons (.v 1) (.nil))))) (.nil))) (.cons (.v 6) (.nil))))) (.cons (.tup (.cons (.tup (.nil)) (.cons (.tup (.cons (.tup (.cons (.c (.str "f")) (.cons (.tup (.cons (.c (.str "x")) (.cons (.v 0) (.nil)))) (.cons (.v 1) (.nil))))) (.nil))) (.cons (.v 6) (.nil))))) (.nil))))))
  (.cons (.for_ (.seq (.v 3)) (.t [7, 8]) (.cons (.expr (.bm .append (.v 2) (.cons (.tup (.cons (.tup (.nil)) (.cons (.tup (.cons (.tup (.cons (.c (.str "f")) (.cons (.tup (.nil)) (.cons (.v 7) (.nil))))) (.nil))) (.cons (.v 8) (.nil))))) (.nil))))
  (.nil)))
  (.cons (.ret (.v 2))
  (.nil)))))))))))
structure H__law_placed (W : Wd) : Prop where
  f__law_placed : W.fb.lookup 25 = some ⟨1, 9, b__law_placed⟩
/- 26 law [script, urn, turn, word, kinds, defs, sorts, owed] -/
def b_law : IB := .cons (.setv 1 (.call 20 (.cons (.v 0) (.nil))))
  (.cons (.for_ (.rng1 (.b2 .add (.c (.int 8)) (.bi .min (.cons (.bi .len (.cons (.v 0) (.nil))) (.cons (.c (.int 9)) (.nil)))))) (.n 2) (.cons (.setv 3 (.ite (.cmp .gt (.call 21 (.cons (.v 1) (.cons (.c (.int 12)) (.nil)))) (.c (.int 0))) (.call 24 (.cons (.v 1) (.nil))) (.ix (.lst (.cons (.c (.non)) (.cons (.c (.int 7)) (.cons (.c (.bl true)) (.cons (.tup (.nil)) (.cons (.tup (.cons (.c (.str "x")) (.nil))) (.cons (.lst (.cons (.c (.str "x")) (.nil))) (.nil)))))))) (.call 21 (.cons (.v 1) (.cons (.c (.int 6)) (.nil)))))))
  (.cons (.for_ (.seq (.call 25 (.cons (.v 3) (.nil)))) (.t [4, 5, 6]) (.cons (.setv 7 (.or (.cmp .inn (.call 23 (.cons (.v 3) (.nil))) (.v 6)) (.and (.cmp .inn (.c (.str "high")) (.v 6)) (.and (.isi (.v 3) "str") (.cmp .eq (.v 3) (.c (.str "whole")))))))
  (.cons (.ifs (.not (.call 22 (.cons (.call 19 (.cons (.tup (.cons (.v 4) (.cons (.v 5) (.nil)))) (.nil))) (.cons (.v 7) (.nil))))) (.cons (.ret (.c (.bl false)))
  (.nil)) (.nil))
  (.nil))))
  (.nil))))
  (.cons (.ret (.c (.bl true)))
  (.nil)))
structure H_law (W : Wd) : Prop where
  f_law : W.fb.lookup 26 = some ⟨1, 8, b_law⟩
  h__law_ball : H__law_ball W
  h__law_placed : H__law_placed W
  h__law_same : H__law_same W
  h__law_sort : H__law_sort W
  h__law_string : H__law_string W
  h__law_urn : H__law_urn W
  h_is_program : H_is_program W
end Z
namespace Z
open PySem PySem.Spec PyProof.Rows L2
section
variable {Γ : Gm} {E : DX} {δ : Env'} {S : Sto} {Q : DK}
theorem rE_c {k : CK} (h : Q k.d S) : dE Γ E (.c k) δ S Q := h
theorem rE_v {i : Nat} {d : D} (e : δ[i]? = some (some d)) (h : Q d S) : dE Γ E (.v i) δ S Q := by
  rw [dE, e]; exact h
theorem rE_g {j : Nat} {d : D} (e : Γ.con j = d) (h : Q d S) : dE Γ E (.g j) δ S Q := by
  rw [dE, e]; exact h
theorem rE_b2 {o : B2} {a b : IE} (h : dE Γ E a δ S fun x S1 => dE Γ E b δ S1 fun y S2 => bop o x y S2 Q) : dE Γ E (.b2 o a b) δ S Q := h
theorem rE_neg {a : IE} (h : dE Γ E a δ S fun x S1 => match x with
    | .int i => Q (.int (-i)) S1
    | _ => False) : dE Γ E (.neg a) δ S Q := h
theorem rE_cmp {o : Cm} {a b : IE} (h : dE Γ E a δ S fun x S1 => dE Γ E b δ S1 fun y S2 => cop o x y S2 fun k => Q (.bl k) S2) : dE Γ E (.cmp o a b) δ S Q := h
theorem rE_chn {o1 o2 : Cm} {a b c : IE} (h : dE Γ E a δ S fun x S1 => dE Γ E b δ S1 fun y S2 => cop o1 x y S2 fun k => match k with
    | true => dE Γ E c δ S2 fun z S3 => cop o2 y z S3 fun k => Q (.bl k) S3
    | false => Q (.bl false) S2) : dE Γ E (.chn o1 o2 a b c) δ S Q := h
theorem rE_and {a b : IE} (h : dE Γ E a δ S fun x S1 => match x with
    | .bl true => dE Γ E b δ S1 Q
    | .bl false => Q (.bl false) S1
    | _ => False) : dE Γ E (.and a b) δ S Q := h
theorem rE_or {a b : IE} (h : dE Γ E a δ S fun x S1 => match x with
    | .bl true => Q (.bl true) S1
    | .bl false => dE Γ E b δ S1 Q
    | _ => False) : dE Γ E (.or a b) δ S Q := h
theorem rE_not {a : IE} (h : dE Γ E a δ S fun x S1 => match x with
    | .bl true => Q (.bl false) S1
    | .bl false => Q (.bl true) S1
    | _ => False) : dE Γ E (.not a) δ S Q := h
theorem rE_ite {t a b : IE} (h : dE Γ E t δ S fun x S1 => match x with
    | .bl true => dE Γ E a δ S1 Q
    | .bl false => dE Γ E b δ S1 Q
    | _ => False) : dE Γ E (.ite t a b) δ S Q := h
theorem rE_tup {es : IEs} (h : dA Γ E es δ S fun xs S1 => xs.length ≤ sizeLine ∧ Q (.tup xs) S1) : dE Γ E (.tup es) δ S Q := h
theorem rE_lst {es : IEs} (h : dA Γ E es δ S fun xs S1 => xs.length ≤ sizeLine ∧ ∀ p, S1 p = none → Q (.loc p) (put S1 p (.lst xs))) : dE Γ E (.lst es) δ S Q := h
theorem rE_ix {a i : IE} (h : dE Γ E a δ S fun x S1 => dE Γ E i δ S1 fun y S2 => ixO x y S2 fun d => Q d S2) : dE Γ E (.ix a i) δ S Q := h
theorem rE_sl {a : IE} {lo hi : IO} (h : dE Γ E a δ S fun x S1 => dO Γ E lo δ S1 fun l S2 => dO Γ E hi δ S2 fun h S3 => slO x l h S3 Q) : dE Γ E (.sl a lo hi) δ S Q := h
theorem rE_call {f : Nat} {es : IEs} (h : dA Γ E es δ S fun xs S1 => Γ.call f xs S1 Q E) : dE Γ E (.call f es) δ S Q := h
theorem rE_new {k : Nat} {es : IEs} (h : dA Γ E es δ S fun xs S1 => ∀ x dx, S1 x = none → S1 dx = none → dx ≠ x → Γ.call (Γ.ini k) (.loc x :: xs) (put S1 x (.ins (Γ.cls k) dx k [])) (fun v S2 => v = .non ∧ Q (.loc x) S2) E) : dE Γ E (.new k es) δ S Q := h
theorem rE_meth {m : Str} {o : IE} {es : IEs} (h : dE Γ E o δ S fun x S1 => ∃ a dx k fs f, x = .loc a ∧ S1 a = some (.ins (Γ.cls k) dx k fs) ∧ Γ.mth k m = some f ∧ fs.lookup m = none ∧ dA Γ E es δ S1 fun xs S2 => Γ.call f (.loc a :: xs) S2 Q E)
    (mono : ∀ {P P' : DK}, (∀ x S, P x S → P' x S) → dE Γ E o δ S P → dE Γ E o δ S P') : dE Γ E (.meth m o es) δ S Q := by
  rw [dE]
  refine mono (fun x S1 q => ?_) h
  obtain ⟨a, dx, k, fs, f, rfl, h1, h2, h3, h4⟩ := q
  dsimp only
  rw [h1]
  dsimp only
  refine ⟨rfl, ?_⟩
  rw [h2]
  exact ⟨h3, h4⟩
theorem rE_bi {b : Bi} {es : IEs} (h : dA Γ E es δ S fun xs S1 => biO b xs S1 Q) : dE Γ E (.bi b es) δ S Q := h
theorem rE_bm {m : Mt} {o : IE} {es : IEs} (h : dE Γ E o δ S fun x S1 => mtTy m x S1 ∧ dA Γ E es δ S1 fun xs S2 => mtO m x xs S2 Q) : dE Γ E (.bm m o es) δ S Q := h
theorem rE_isi {a : IE} {T : String} (h : dE Γ E a δ S fun x S1 => isiO x T S1 fun k => Q (.bl k) S1) : dE Γ E (.isi a T) δ S Q := h
theorem rE_lc {w : IW} {tg : IT} {cs : IEs} {e : IE} {own : List (Str × Nat)} (h : dW Γ E w δ S fun ds G S1 => ∀ p, S1 p = none →
      lcLoop G (fun d S2 k => tgO tg d (wipeD δ (own.map (·.2))) fun δ2 => dCs Γ (fun _ _ _ => False) cs δ2 S2 fun b S3 => match b with
        | true => dE Γ (fun _ _ _ => False) e δ2 S3 fun y S4 => ∃ acc, S4 p = some (.lst acc) ∧ acc.length < sizeLine ∧ k (put S4 p (.lst (acc ++ [y])))
        | false => k S3) ds (put S1 p (.lst [])) fun S2 => Q (.loc p) S2) : dE Γ E (.lc w tg cs e own) δ S Q := h
theorem rA_n {P : List D → Sto → Prop} (h : P [] S) : dA Γ E .nil δ S P := h
theorem rA_c {e : IE} {es : IEs} {P : List D → Sto → Prop} (h : dE Γ E e δ S fun x S1 => dA Γ E es δ S1 fun xs S2 => P (x :: xs) S2) : dA Γ E (.cons e es) δ S P := h
theorem rO_n {P : Option Int → Sto → Prop} (h : P none S) : dO Γ E .none δ S P := h
theorem rO_s {e : IE} {P : Option Int → Sto → Prop} (h : dE Γ E e δ S fun x S1 => match x with
    | .int i => P (some i) S1
    | _ => False) : dO Γ E (.some e) δ S P := h
theorem rW_s {e : IE} {P : List D → (Sto → Prop) → Sto → Prop} (h : dE Γ E e δ S fun x S1 => seqO x S1 fun ds G => P ds G S1) : dW Γ E (.seq e) δ S P := h
theorem rW_1 {e : IE} {P : List D → (Sto → Prop) → Sto → Prop} (h : dE Γ E e δ S fun x S1 => match x with
    | .int j => -(2 ^ 62) ≤ j ∧ j < 2 ^ 62 ∧ P (rangeD 0 j.toNat) (fun _ => True) S1
    | _ => False) : dW Γ E (.rng1 e) δ S P := h
theorem rC_n {P : Bool → Sto → Prop} (h : P true S) : dCs Γ E .nil δ S P := h
theorem rC_c {e : IE} {P : Bool → Sto → Prop} (h : dE Γ E e δ S fun x S1 => match x with
    | .bl k => P k S1
    | _ => False) : dCs Γ E (.cons e .nil) δ S P := h
end
section
variable {S : Sto} {Q : DK} {P : Bool → Prop}
theorem bsp {b : Bool} (t : b = true → P true) (f : b = false → P false) : P b := by cases b; exact f rfl; exact t rfl
theorem csp {p : Prop} [Decidable p] (t : p → P true) (f : ¬p → P false) : P (decide p) := by
  by_cases h : p
  · rw [decide_eq_true h]; exact t h
  · rw [decide_eq_false h]; exact f h
theorem nsp {p : Prop} [Decidable p] (t : ¬p → P true) (f : p → P false) : P (!decide p) := by
  by_cases h : p
  · rw [decide_eq_true h]; exact f h
  · rw [decide_eq_false h]; exact t h
theorem o_lt {i j : Int} (t : i < j → P true) (f : j ≤ i → P false) : cop .lt (.int i) (.int j) S P := csp t fun h => f (by omega)
theorem o_le {i j : Int} (t : i ≤ j → P true) (f : j < i → P false) : cop .le (.int i) (.int j) S P := csp t fun h => f (by omega)
theorem o_gt {i j : Int} (t : j < i → P true) (f : i ≤ j → P false) : cop .gt (.int i) (.int j) S P := csp t fun h => f (by omega)
theorem o_ge {i j : Int} (t : j ≤ i → P true) (f : i < j → P false) : cop .ge (.int i) (.int j) S P := csp t fun h => f (by omega)
theorem o_eqi {i j : Int} (t : i = j → P true) (f : i ≠ j → P false) : cop .eq (.int i) (.int j) S P := by
  show P (false ^^ decide (i = j)); rw [Bool.false_xor]; exact csp t f
theorem o_nei {i j : Int} (t : i ≠ j → P true) (f : i = j → P false) : cop .ne (.int i) (.int j) S P := by
  show P (true ^^ decide (i = j)); rw [Bool.true_xor]; exact nsp t f
theorem o_eqs {i j : Str} (t : i = j → P true) (f : i ≠ j → P false) : cop .eq (.str i) (.str j) S P := by
  show P (false ^^ decide (i = j)); rw [Bool.false_xor]; exact csp t f
theorem o_nes {i j : Str} (t : i ≠ j → P true) (f : i = j → P false) : cop .ne (.str i) (.str j) S P := by
  show P (true ^^ decide (i = j)); rw [Bool.true_xor]; exact nsp t f
theorem o_eqb {i j : Bool} (t : i = j → P true) (f : i ≠ j → P false) : cop .eq (.bl i) (.bl j) S P := by
  show P (false ^^ decide (i = j)); rw [Bool.false_xor]; exact csp t f
theorem o_inc {c : _} {j : Str} (t : c ∈ j.cps.toList → P true) (f : c ∉ j.cps.toList → P false) : cop .inn (.str ⟨#[c]⟩) (.str j) S P :=
  ⟨c, rfl, by rw [Bool.false_xor]; exact csp t f⟩
theorem o_nic {c : _} {j : Str} (t : c ∉ j.cps.toList → P true) (f : c ∈ j.cps.toList → P false) : cop .nin (.str ⟨#[c]⟩) (.str j) S P :=
  ⟨c, rfl, by rw [Bool.true_xor]; exact nsp t f⟩
theorem isi_of {x : D} {T : String} {t : String} {b : Bool} (h1 : tyS x S = some t) (h2 : kitB t T = some b) (h : P b) : isiO x T S P := by
  unfold isiO; rw [h1]; exact ⟨b, h2, h⟩
theorem ib1 {z : Str} (h : P true) : isiO (.str z) "str" S P := isi_of rfl (by decide) h
end
end Z
namespace Z
open PySem PySem.Spec PyProof.Rows L2
theorem call_of {W : Wd} {n f np ns : Nat} {b : IB} {ds : List D} {S : Sto} {Q : DK} {E : DX} {δ : Env'} (hb : W.fb.lookup f = some ⟨np, ns, b⟩) (hl : ds.length = np) (hδ : ds.map some ++ List.replicate (ns - ds.length) none = δ)
    (h : dB (W.gm (dcall W n)) (fun c fs _ S' => ∃ T, Sub T S' ∧ E c fs T) b (ends Q) δ S) : dcall W (n + 1) f ds S Q E := by
  rw [dcall, hb]
  refine ⟨hl, ?_⟩
  subst hδ
  exact h
section
variable {Γ : Gm} {E : DXS} {δ : Env'} {S : Sto} {F : DEnds}
theorem rB_n (h : F.nx δ S) : dB Γ E .nil F δ S := h
theorem rB_1 {s : IS} (h : dS Γ E s F δ S) : dB Γ E (.cons s .nil) F δ S := h
theorem rB_2 {s s2 : IS} {b : IB} (h : dS Γ E s { F with nx := dB Γ E (.cons s2 b) F } δ S) : dB Γ E (.cons s (.cons s2 b)) F δ S := h
theorem rS_setv {i : Nat} {e : IE} (h : dE Γ (fun c fs S' => E c fs δ S') e δ S fun x S1 => F.nx (δ.set i (some x)) S1) : dS Γ E (.setv i e) F δ S := h
theorem rS_setlc {i : Nat} {e : IE} (h : dE Γ (fun c fs S' => E c fs δ S') e δ S fun x S1 => F.nx (δ.set i (some x)) S1) : dS Γ E (.setlc i e) F δ S := h
theorem rS_sett {is : List Nat} {e : IE} (h : dE Γ (fun c fs S' => E c fs δ S') e δ S fun x S1 => tgO (.t is) x δ fun δ' => F.nx δ' S1) : dS Γ E (.sett is e) F δ S := h
theorem rS_par {i j : Nat} {a b : IE} (h : dE Γ (fun c fs S' => E c fs δ S') a δ S fun x S1 => dE Γ (fun c fs S' => E c fs δ S') b δ S1 fun y S2 => F.nx ((δ.set i (some x)).set j (some y)) S2) : dS Γ E (.par i j a b) F δ S := h
theorem rS_sets {o i e : IE} (h : dE Γ (fun c fs S' => E c fs δ S') e δ S fun z S1 => dE Γ (fun c fs S' => E c fs δ S') o δ S1 fun x S2 => dE Γ (fun c fs S' => E c fs δ S') i δ S2 fun y S3 => match x, y with
    | .loc a, .int k => ∃ xs j, S3 a = some (.lst xs) ∧ ixN xs.length k = some j ∧ F.nx δ (put S3 a (.lst (xs.set j z)))
    | _, _ => False) : dS Γ E (.sets o i e) F δ S := h
theorem rS_expr {e : IE} (h : dE Γ (fun c fs S' => E c fs δ S') e δ S fun _ S1 => F.nx δ S1) : dS Γ E (.expr e) F δ S := h
theorem rS_ret {e : IE} (h : dE Γ (fun c fs S' => E c fs δ S') e δ S F.rt) : dS Γ E (.ret e) F δ S := h
theorem rS_retN (h : F.rt .non S) : dS Γ E .retN F δ S := h
theorem rS_ifs {t : IE} {a b : IB} (h : dE Γ (fun c fs S' => E c fs δ S') t δ S fun x S1 => match x with
    | .bl true => dB Γ E a F δ S1
    | .bl false => dB Γ E b F δ S1
    | _ => False) : dS Γ E (.ifs t a b) F δ S := h
theorem rS_for {w : IW} {t : IT} {b : IB} (h : dW Γ (fun c fs S' => E c fs δ S') w δ S fun ds G S1 =>
      forL G (fun d k δ1 S2 => tgO t d δ1 fun δ2 => dB Γ E b { F with nx := k, ct := k, bk := F.nx } δ2 S2) F.nx ds δ S1) : dS Γ E (.for_ w t b) F δ S := h
end
end Z
namespace Z
open PySem PySem.Spec PyProof.Rows L2
def Ty (S : Sto) (d : D) : Prop := ∃ t, tyS d S = some t
def isStrD : D → Bool
  | .str _ => true
  | _ => false
def isTupD : D → Bool
  | .tup _ => true
  | _ => false
def isIntD : D → Bool
  | .int _ => true
  | _ => false
def isBlD : D → Bool
  | .bl _ => true
  | _ => false
section
variable {S S' : Sto} {P : Bool → Prop} {d : D}
theorem Ty.str {z : Str} : Ty S (.str z) := ⟨_, rfl⟩
theorem Ty.int {i : Int} : Ty S (.int i) := ⟨_, rfl⟩
theorem Ty.bl {b : Bool} : Ty S (.bl b) := ⟨_, rfl⟩
theorem Ty.tup {xs : List D} : Ty S (.tup xs) := ⟨_, rfl⟩
theorem Ty.non : Ty S .non := ⟨_, rfl⟩
theorem Ty.rl {xs : List D} : Ty S (.rl xs) := ⟨_, rfl⟩
theorem Ty.lst {a : Addr} {xs : List D} (h : S a = some (.lst xs)) : Ty S (.loc a) := ⟨"list", by unfold tyS; dsimp only; rw [h]⟩
theorem Ty.mono (s : Sub S S') (h : Ty S d) : Ty S' d := by
  obtain ⟨t, h⟩ := h
  cases d <;> first | exact ⟨_, rfl⟩ | skip
  · rename_i a
    unfold tyS at h
    dsimp only at h
    cases e : S a with
    | none => rw [e] at h; cases h
    | some o =>
      rw [e] at h
      refine ⟨t, ?_⟩
      unfold tyS
      dsimp only
      rw [s a o e]
      exact h
  · cases h
theorem ty_loc {a : Addr} (h : Ty S (.loc a)) : tyS (.loc a) S = some "list" ∨ tyS (.loc a) S = some "dict" := by
  obtain ⟨t, h⟩ := h
  unfold tyS at h ⊢
  dsimp only at h ⊢
  split at h
  · exact .inl rfl
  · exact .inr rfl
  · cases h
theorem k_str (w : Ty S d) (t : ∀ z, d = .str z → P true) (f : isStrD d = false → P false) : isiO d "str" S P := by
  cases d with
  | str z => exact isi_of rfl (by decide) (t z rfl)
  | loc a => rcases ty_loc w with h | h <;> exact isi_of h (by decide) (f rfl)
  | ty n => obtain ⟨_, h⟩ := w; cases h
  | _ => exact isi_of rfl (by decide) (f rfl)
theorem k_tup (w : Ty S d) (t : ∀ z, d = .tup z → P true) (f : isTupD d = false → P false) : isiO d "tuple" S P := by
  cases d with
  | tup z => exact isi_of rfl (by decide) (t z rfl)
  | loc a => rcases ty_loc w with h | h <;> exact isi_of h (by decide) (f rfl)
  | ty n => obtain ⟨_, h⟩ := w; cases h
  | _ => exact isi_of rfl (by decide) (f rfl)
theorem k_bool (w : Ty S d) (t : ∀ z, d = .bl z → P true) (f : isBlD d = false → P false) : isiO d "bool" S P := by
  cases d with
  | bl z => exact isi_of rfl (by decide) (t z rfl)
  | loc a => rcases ty_loc w with h | h <;> exact isi_of h (by decide) (f rfl)
  | ty n => obtain ⟨_, h⟩ := w; cases h
  | _ => exact isi_of rfl (by decide) (f rfl)
theorem k_int (w : Ty S d) (t : ∀ z, d = .int z → P true) (tb : ∀ z, d = .bl z → P true) (f : isBlD d = false → isIntD d = false → P false) : isiO d "int" S P := by
  cases d with
  | int z => exact isi_of rfl (by decide) (t z rfl)
  | bl z => exact isi_of rfl (by decide) (tb z rfl)
  | loc a => rcases ty_loc w with h | h <;> exact isi_of h (by decide) (f rfl rfl)
  | ty n => obtain ⟨_, h⟩ := w; cases h
  | _ => exact isi_of rfl (by decide) (f rfl rfl)
theorem o_inT {x : D} {ys : List D} (h1 : flatD x = true) (h2 : ys.all flatD = true) (t : inD x ys = true → P true) (f : inD x ys = false → P false) : cop .inn x (.tup ys) S P := by
  cases x <;> exact ⟨h1, h2, by rw [Bool.false_xor]; exact bsp t f⟩
theorem o_niT {x : D} {ys : List D} (h1 : flatD x = true) (h2 : ys.all flatD = true) (t : inD x ys = false → P true) (f : inD x ys = true → P false) : cop .nin x (.tup ys) S P := by
  have : P (true ^^ inD x ys) := by
    rw [Bool.true_xor]
    cases e : inD x ys with
    | true => exact f e
    | false => exact t e
  cases x <;> exact ⟨h1, h2, this⟩
theorem o_inL {x : D} {a : Addr} {ys : List D} (h0 : S a = some (.lst ys)) (h1 : flatD x = true) (h2 : ys.all flatD = true) (t : inD x ys = true → P true) (f : inD x ys = false → P false) : cop .inn x (.loc a) S P := by
  cases x <;> exact ⟨ys, h0, h1, h2, by rw [Bool.false_xor]; exact bsp t f⟩
end
section
variable {S : Sto} {p : Addr} {Q : DK}
theorem lc_pure {G : Sto → Prop} {step : D → Sto → (Sto → Prop) → Prop} {k : Sto → Prop} (g : D → Option D) (hG : ∀ acc, G (put S p (.lst acc))) : ∀ (ds : List D) (acc : List D),
    (∀ d ∈ ds, ∀ acc k, acc.length < sizeLine → k (put S p (.lst (acc ++ (g d).toList))) → step d (put S p (.lst acc)) k) →
    acc.length + ds.length ≤ sizeLine → k (put S p (.lst (acc ++ ds.filterMap g))) → lcLoop G step ds (put S p (.lst acc)) k
  | [], acc, _, _, hk => ⟨hG _, by simpa using hk⟩
  | d :: ds, acc, hs, hl, hk => by
    refine ⟨hG _, hs d (List.mem_cons_self ..) acc _ (by simp at hl; omega) ⟨_, Sub.refl, ?_⟩⟩
    refine lc_pure g hG ds _ (fun e he => hs e (List.mem_cons_of_mem _ he)) ?_ ?_
    · have : (g d).toList.length ≤ 1 := by cases g d <;> simp
      simp at hl ⊢; omega
    · rw [List.append_assoc]
      have : (g d).toList ++ ds.filterMap g = (d :: ds).filterMap g := by
        cases h : g d <;> simp [List.filterMap_cons, h]
      rw [this]; exact hk
theorem lc_map {G : Sto → Prop} {step : D → Sto → (Sto → Prop) → Prop} {kk : Sto → Prop} {ds : List D} (F : D → D) (hG : ∀ acc, G (put S p (.lst acc))) (hl : ds.length ≤ sizeLine)
    (hs : ∀ d ∈ ds, ∀ acc k, acc.length < sizeLine → k (put S p (.lst (acc ++ [F d]))) → step d (put S p (.lst acc)) k)
    (hq : kk (put S p (.lst (ds.map F)))) : lcLoop G step ds (put S p (.lst [])) kk := by
  refine lc_pure (fun d => some (F d)) hG ds [] hs (by simpa using hl) ?_
  have e : ds.filterMap (fun d => some (F d)) = ds.map F := by rw [List.filterMap_eq_map']
  rw [List.nil_append, e]
  exact hq
theorem lc_all {G : Sto → Prop} {step : D → Sto → (Sto → Prop) → Prop} {kk : Sto → Prop} {ds : List D} (F : D → Bool) (hG : ∀ acc, G (put S p (.lst acc))) (hl : ds.length ≤ sizeLine)
    (hs : ∀ d ∈ ds, ∀ acc k, acc.length < sizeLine → k (put S p (.lst (acc ++ [.bl (F d)]))) → step d (put S p (.lst acc)) k)
    (hq : kk (put S p (.lst ((ds.map F).map .bl)))) : lcLoop G step ds (put S p (.lst [])) kk := by
  refine lc_map (fun d => .bl (F d)) hG hl hs ?_
  have e : ds.map (fun d => D.bl (F d)) = (ds.map F).map .bl := by simp
  rw [e]
  exact hq
theorem lc_filter {G : Sto → Prop} {step : D → Sto → (Sto → Prop) → Prop} {kk : Sto → Prop} {ds : List D} (F : D → Bool) (hG : ∀ acc, G (put S p (.lst acc))) (hl : ds.length ≤ sizeLine)
    (hs : ∀ d ∈ ds, ∀ acc k, acc.length < sizeLine → k (put S p (.lst (acc ++ if F d then [d] else []))) → step d (put S p (.lst acc)) k)
    (hq : kk (put S p (.lst (ds.filter F)))) : lcLoop G step ds (put S p (.lst [])) kk := by
  refine lc_pure (fun d => if F d then some d else none) hG ds [] (fun d hd acc k hl hk => hs d hd acc k hl ?_) (by simpa using hl) ?_
  · have e : (if F d = true then some d else none).toList = if F d then [d] else [] := by cases F d <;> rfl
    rw [e] at hk
    exact hk
  · have e : ds.filterMap (fun d => if F d then some d else none) = ds.filter F := by
      clear hq hs hl
      induction ds with
      | nil => rfl
      | cons x r ih =>
        rw [List.filterMap_cons, List.filter_cons]
        cases F x <;> simp [ih]
    rw [List.nil_append, e]
    exact hq
theorem b_allP {ds : List D} {F : D → Bool} (hq : Q (.bl (ds.all F)) (put S p (.lst ((ds.map F).map .bl)))) : biO .all [.loc p] (put S p (.lst ((ds.map F).map .bl))) Q := by
  refine ⟨_, put_same, ds.map F, rfl, ?_⟩
  have : (ds.map F).all id = ds.all F := by simp [List.all_map]
  rw [this]
  exact hq
theorem forL_inv {G : Sto → Prop} {step : D → (Env' → Sto → Prop) → Env' → Sto → Prop} {nx : Env' → Sto → Prop} (I : List D → Env' → Sto → Prop)
    (hG : ∀ r δ S, I r δ S → G S) (hs : ∀ d r δ S, I (d :: r) δ S → ∀ k, (∀ δ' S' T, Sub T S' → I r δ' T → k δ' S') → step d k δ S) (hn : ∀ δ S, I [] δ S → nx δ S) :
    ∀ (ds : List D) (δ : Env') (S : Sto), I ds δ S → forL G step nx ds δ S
  | [], δ, S, h => ⟨hG _ _ _ h, hn _ _ h⟩
  | d :: ds, δ, S, h => ⟨hG _ _ _ h, hs d ds δ S h _ fun δ' S' T s i => ⟨T, s, forL_inv I hG hs hn ds δ' T i⟩⟩
end
end Z
namespace Z
open PySem PySem.Spec PyProof.Rows L2
section
variable {S : Sto} {Q : DK} {P : D → Prop}
theorem b_lenT {xs : List D} (h : Q (.int xs.length) S) : biO .len [.tup xs] S Q := h
theorem b_lenR {xs : List D} (h : Q (.int xs.length) S) : biO .len [.rl xs] S Q := h
theorem b_lenS {z : Str} (h1 : z.length ≤ sizeLine) (h : Q (.int z.length) S) : biO .len [.str z] S Q := ⟨h1, h⟩
theorem b_lenL {a : Addr} {xs : List D} (h1 : S a = some (.lst xs)) (h : Q (.int xs.length) S) : biO .len [.loc a] S Q := ⟨xs, h1, h⟩
theorem i_tup {xs : List D} {i : Int} {d : D} (e : atI xs i = some d) (h : P d) : ixO (.tup xs) (.int i) S P := ⟨d, e, h⟩
theorem i_rl {xs : List D} {i : Int} {d : D} (e : atI xs i = some d) (h : P d) : ixO (.rl xs) (.int i) S P := ⟨d, e, h⟩
theorem i_str {z : Str} {i : Int} {c : _} (h1 : z.length ≤ sizeLine) (e : atI z.cps.toList i = some c) (h : P (.str ⟨#[c]⟩)) : ixO (.str z) (.int i) S P := ⟨h1, c, e, h⟩
theorem i_lst {a : Addr} {xs : List D} {i : Int} {d : D} (h1 : S a = some (.lst xs)) (e : atI xs i = some d) (h : P d) : ixO (.loc a) (.int i) S P := ⟨xs, d, h1, e, h⟩
theorem s_tup {xs : List D} {k : List D → (Sto → Prop) → Prop} (h : k xs fun _ => True) : seqO (.tup xs) S k := h
theorem s_rl {xs : List D} {k : List D → (Sto → Prop) → Prop} (h : k xs fun _ => True) : seqO (.rl xs) S k := h
theorem s_str {z : Str} {k : List D → (Sto → Prop) → Prop} (h : k (z.cps.toList.map fun c => .str ⟨#[c]⟩) fun _ => True) : seqO (.str z) S k := h
theorem s_lst {a : Addr} {xs : List D} {k : List D → (Sto → Prop) → Prop} (h1 : S a = some (.lst xs)) (h : k xs fun S' => S' a = some (.lst xs)) : seqO (.loc a) S k := ⟨xs, h1, h⟩
theorem atI_nat {α : Type} {xs : List α} {i : Nat} {d : α} (h : xs[i]? = some d) (hl : xs.length < 2 ^ 62) : atI xs (i : Int) = some d := by
  have hi : i < xs.length := by
    rcases Nat.lt_or_ge i xs.length with h1 | h1
    · exact h1
    · rw [List.getElem?_eq_none h1] at h; cases h
  unfold atI
  have h1 : ixN xs.length ((i : Nat) : Int) = some i := by
    unfold ixN
    rw [if_pos (by omega), if_pos (by omega)]
    all_goals rfl
  rw [h1]
  exact h
theorem pred {n k : Nat} (h : k + 1 ≤ n) : ∃ m, n = m + 1 ∧ k ≤ m := ⟨n - 1, by omega, by omega⟩
end
end Z
namespace Z
open PySem PySem.Spec PyProof.Rows L2
section
variable {S : Sto} {P : Bool → Prop}
theorem n_eqt {i j : Int} (h : i = j) (t : P true) : cop .eq (.int i) (.int j) S P := o_eqi (fun _ => t) fun g => absurd h g
theorem n_eqf {i j : Int} (h : i ≠ j) (t : P false) : cop .eq (.int i) (.int j) S P := o_eqi (fun g => absurd g h) fun _ => t
theorem n_net {i j : Int} (h : i ≠ j) (t : P true) : cop .ne (.int i) (.int j) S P := o_nei (fun _ => t) fun g => absurd g h
theorem n_nef {i j : Int} (h : i = j) (t : P false) : cop .ne (.int i) (.int j) S P := o_nei (fun g => absurd h g) fun _ => t
theorem n_ltt {i j : Int} (h : i < j) (t : P true) : cop .lt (.int i) (.int j) S P := o_lt (fun _ => t) fun g => by omega
theorem n_ltf {i j : Int} (h : j ≤ i) (t : P false) : cop .lt (.int i) (.int j) S P := o_lt (fun g => by omega) fun _ => t
theorem n_let {i j : Int} (h : i ≤ j) (t : P true) : cop .le (.int i) (.int j) S P := o_le (fun _ => t) fun g => by omega
theorem n_lef {i j : Int} (h : j < i) (t : P false) : cop .le (.int i) (.int j) S P := o_le (fun g => by omega) fun _ => t
theorem n_gtt {i j : Int} (h : j < i) (t : P true) : cop .gt (.int i) (.int j) S P := o_gt (fun _ => t) fun g => by omega
theorem n_gtf {i j : Int} (h : i ≤ j) (t : P false) : cop .gt (.int i) (.int j) S P := o_gt (fun g => by omega) fun _ => t
theorem n_get {i j : Int} (h : j ≤ i) (t : P true) : cop .ge (.int i) (.int j) S P := o_ge (fun _ => t) fun g => by omega
theorem n_gef {i j : Int} (h : i < j) (t : P false) : cop .ge (.int i) (.int j) S P := o_ge (fun g => by omega) fun _ => t
theorem n_est {i j : Str} (h : i = j) (t : P true) : cop .eq (.str i) (.str j) S P := o_eqs (fun _ => t) fun g => absurd h g
theorem n_esf {i j : Str} (h : i ≠ j) (t : P false) : cop .eq (.str i) (.str j) S P := o_eqs (fun g => absurd g h) fun _ => t
theorem n_nst {i j : Str} (h : i ≠ j) (t : P true) : cop .ne (.str i) (.str j) S P := o_nes (fun _ => t) fun g => absurd g h
theorem n_nsf {i j : Str} (h : i = j) (t : P false) : cop .ne (.str i) (.str j) S P := o_nes (fun g => absurd h g) fun _ => t
/-- a word of a tuple is compared -/
def EqOk (S : Sto) (x : D) : Prop := ∃ d, DP S x d ∧ SeqAt.shaped d = true
def isW (z : Str) : D → Bool
  | .str y => decide (y = z)
  | _ => false
theorem dp_str {S : Sto} {x : D} {z : Str} (h : DP S x (.str z)) : x = .str z := by cases h; rfl
theorem eqv_str {d : PyData} {z : Str} (h : ∀ y, d ≠ .str y) : PyData.eqv d (.str z) = false := by
  cases d <;> first | exact absurd rfl (h _) | (unfold PyData.eqv; rfl)
theorem shp {z : Str} (h : PyData.strOk z = true) : SeqAt.shaped (.str z) = true := by
  simp [SeqAt.shaped, PyData.canLay0, PyData.depth, h]
theorem w_ne {x : D} {z : Str} (hs : PyData.strOk z = true) (w : isStrD x = true ∨ EqOk S x) (t : isW z x = false → P true) (f : isW z x = true → P false) : cop .ne x (.str z) S P := by
  by_cases hx : isStrD x = true
  · cases x <;> first | cases hx | skip
    exact o_nes (fun e => t (decide_eq_false e)) fun e => f (decide_eq_true e)
  · obtain ⟨d, h1, h2⟩ := w.resolve_left hx
    have hf : isW z x = false := by cases x <;> first | rfl | exact absurd rfl hx
    have g : PyData.eqv d (.str z) = false := eqv_str fun y e => by subst e; rw [dp_str h1] at hx; exact hx rfl
    have q : P (true ^^ PyData.eqv d (.str z)) := by rw [g]; exact t hf
    cases x <;> first | exact ⟨d, .str z, h1, .str z, h2, shp hs, q⟩ | exact absurd rfl hx
theorem w_eq {x : D} {z : Str} (hs : PyData.strOk z = true) (w : isStrD x = true ∨ EqOk S x) (t : isW z x = true → P true) (f : isW z x = false → P false) : cop .eq x (.str z) S P := by
  by_cases hx : isStrD x = true
  · cases x <;> first | cases hx | skip
    exact o_eqs (fun e => t (decide_eq_true e)) fun e => f (decide_eq_false e)
  · obtain ⟨d, h1, h2⟩ := w.resolve_left hx
    have hf : isW z x = false := by cases x <;> first | rfl | exact absurd rfl hx
    have g : PyData.eqv d (.str z) = false := eqv_str fun y e => by subst e; rw [dp_str h1] at hx; exact hx rfl
    have q : P (false ^^ PyData.eqv d (.str z)) := by rw [g]; exact f hf
    cases x <;> first | exact ⟨d, .str z, h1, .str z, h2, shp hs, q⟩ | exact absurd rfl hx
end
end Z
namespace Z
open PySem PySem.Spec PyProof.Rows L2
section
variable {Γ : Gm} {E : DX} {δ : Env'} {S : Sto} {Q : DK}
theorem rE_fldv {i k : Nat} {f : Str} {a dx : Addr} {fs : List (Str × D)} {d : D} (e : δ[i]? = some (some (.loc a))) (h1 : S a = some (.ins (Γ.cls k) dx k fs)) (h2 : Γ.fok k f = true) (h3 : fs.lookup f = some d) (h : Q d S) : dE Γ E (.fld (.v i) f) δ S Q := by
  rw [dE, dE, e]
  dsimp only
  rw [h1]
  dsimp only
  refine ⟨rfl, h2, ?_⟩
  rw [h3]
  exact h
theorem rE_methv {i k f : Nat} {m : Str} {es : IEs} {a dx : Addr} {fs : List (Str × D)} (e : δ[i]? = some (some (.loc a))) (h1 : S a = some (.ins (Γ.cls k) dx k fs)) (h2 : Γ.mth k m = some f) (h3 : fs.lookup m = none)
    (h : dA Γ E es δ S fun xs S2 => Γ.call f (.loc a :: xs) S2 Q E) : dE Γ E (.meth m (.v i) es) δ S Q := by
  rw [dE, dE, e]
  dsimp only
  rw [h1]
  dsimp only
  refine ⟨rfl, ?_⟩
  rw [h2]
  exact ⟨h3, h⟩
end
section
variable {Γ : Gm} {E : DXS} {δ : Env'} {S : Sto} {F : DEnds}
theorem rS_augv {i k : Nat} {f : Str} {op : B2} {e : IE} {a dx : Addr} {fs : List (Str × D)} {x : Int} (h0 : δ[i]? = some (some (.loc a))) (h1 : S a = some (.ins (Γ.cls k) dx k fs)) (h2 : Γ.fok k f = true) (h3 : fs.lookup f = some (.int x))
    (h : dE Γ (fun c fs S' => E c fs δ S') e δ S fun y S2 => match y with
          | .int j => ∃ dx' k' fs', S2 a = some (.ins (Γ.cls k) dx' k' fs') ∧ fs'.length < 1000 ∧ (match op with
            | .add => F.nx δ (put S2 a (.ins (Γ.cls k) dx' k' (putD f (.int (x + j)) fs')))
            | .sub => F.nx δ (put S2 a (.ins (Γ.cls k) dx' k' (putD f (.int (x - j)) fs')))
            | _ => False)
          | _ => False) : dS Γ E (.augf (.v i) f op e) F δ S := by
  rw [dS, dE, h0]
  dsimp only
  rw [h1]
  dsimp only
  refine ⟨rfl, h2, ?_⟩
  rw [h3]
  exact h
theorem rS_setf {o e : IE} {f : Str} (h : dE Γ (fun c fs S' => E c fs δ S') e δ S fun z S1 => dE Γ (fun c fs S' => E c fs δ S') o δ S1 fun x S2 => match x with
    | .loc a => match S2 a with
      | some (.ins C dx k fs) => C = Γ.cls k ∧ Γ.fok k f = true ∧ fs.length < 1000 ∧ F.nx δ (put S2 a (.ins C dx k (putD f z fs)))
      | _ => False
    | _ => False) : dS Γ E (.setf o f e) F δ S := h
theorem at_ins {a dx : Addr} {k : Nat} {fs : List (Str × D)} {f : Str} {z : D} {N : Env' → Sto → Prop} (h1 : S a = some (.ins (Γ.cls k) dx k fs)) (h2 : Γ.fok k f = true) (h3 : fs.length < 1000) (h : N δ (put S a (.ins (Γ.cls k) dx k (putD f z fs)))) :
   (match S a with
      | some (.ins C dx k fs) => C = Γ.cls k ∧ Γ.fok k f = true ∧ fs.length < 1000 ∧ N δ (put S a (.ins C dx k (putD f z fs)))
      | _ => False) := by
  rw [h1]; exact ⟨rfl, h2, h3, h⟩
end
end Z
namespace Z
open PySem PySem.Spec PyProof.Rows L2
section
variable {S : Sto} {Q : DK}
theorem p_add {i j : Int} (h : Q (.int (i + j)) S) : bop .add (.int i) (.int j) S Q := h
theorem p_sub {i j : Int} (h : Q (.int (i - j)) S) : bop .sub (.int i) (.int j) S Q := h
theorem p_mul {i j : Int} (c : CMul i j) (h : Q (.int (i * j)) S) : bop .mul (.int i) (.int j) S Q := ⟨c, h⟩
theorem p_mod {i j : Int} (c : j ≠ 0) (h : Q (.int (i.fmod j)) S) : bop .mod (.int i) (.int j) S Q := ⟨c, h⟩
theorem p_div {i j : Int} (c : CDivN i j) (h : Q (.int (i.fdiv j)) S) : bop .fdiv (.int i) (.int j) S Q := ⟨c, h⟩
theorem p_adds {i j : Str} (c : i.length + j.length ≤ sizeLine) (h : Q (.str (i ++ j)) S) : bop .add (.str i) (.str j) S Q := ⟨c, h⟩
theorem p_addt {xs ys : List D} (c : xs.length + ys.length ≤ sizeLine) (h : Q (.tup (xs ++ ys)) S) : bop .add (.tup xs) (.tup ys) S Q := ⟨c, h⟩
end
end Z
namespace Z
open PySem PySem.Spec PyProof.Rows L2
theorem b_int {i : Int} {S : Sto} {Q : DK} (h : Q (.int i) S) : biO .int [.int i] S Q := h
theorem p_pow {i j : Int} {S : Sto} {Q : DK} (c : CPow i j) (h : Q (.int (i ^ j.toNat)) S) : bop .pow (.int i) (.int j) S Q := ⟨c, h⟩
theorem m_pop0 {c : Addr} {d : D} {ds : List D} {S : Sto} {Q : DK} (h : S c = some (.lst (d :: ds))) (q : Q d (put S c (.lst ds))) : mtO .pop (.loc c) [.int 0] S Q := by
  refine ⟨d :: ds, 0, d, h, by decide, by decide, ?_, rfl, q⟩
  simp [seqIndex?]
theorem sets_at {a : Addr} {ds : List D} {k : Int} {j : Nat} {z : D} {N : Env' → Sto → Prop} {δ : Env'} {S : Sto} (h : S a = some (.lst ds)) (hj : ixN ds.length k = some j) (q : N δ (put S a (.lst (ds.set j z)))) :
   ∃ xs j, S a = some (.lst xs) ∧ ixN xs.length k = some j ∧ N δ (put S a (.lst (xs.set j z))) := ⟨ds, j, h, hj, q⟩
end Z
namespace Z
open PySem PySem.Spec PyProof.Rows L2
theorem isN_no {d : D} {S : Sto} {P : Bool → Prop} (e : isNon d = false) (h : P false) : cop .isN d .non S P := ⟨rfl, by rw [e]; exact h⟩
theorem isN_yes {S : Sto} {P : Bool → Prop} (h : P true) : cop .isN .non .non S P := ⟨rfl, h⟩
theorem notN_no {d : D} {S : Sto} {P : Bool → Prop} (e : isNon d = false) (h : P true) : cop .notN d .non S P := ⟨rfl, by rw [e]; exact h⟩
theorem notN_yes {S : Sto} {P : Bool → Prop} (h : P false) : cop .notN .non .non S P := ⟨rfl, h⟩
theorem c_inc {c : Nat} {j : Str} {S : Sto} {P : Bool → Prop} (h : P (decide (c ∈ j.cps.toList))) : cop .inn (.str ⟨#[c]⟩) (.str j) S P := ⟨c, rfl, by rw [Bool.false_xor]; exact h⟩
end Z
namespace Z
open PySem PySem.Spec PyProof.Rows L2
local macro_rules | `(tactic| walk_at "e") => `(tactic| first
  | (with_reducible first
    | apply rB_1 | apply rB_2 | apply rS_ret | apply rS_ifs | apply rS_setv | apply rS_expr | apply rS_for | apply rS_setlc | apply rS_sett | apply rS_par | apply rS_sets | apply rS_retN | apply rS_setf | apply rB_n
    | apply rE_c | apply rE_b2 | apply rE_neg | apply rE_cmp | apply rE_chn | apply rE_and | apply rE_or | apply rE_not | apply rE_ite | apply rE_tup | apply rE_lst | apply rE_ix | apply rE_sl | apply rE_call | apply rE_bi | apply rE_bm | apply rE_isi | apply rE_lc
    | apply rA_n | apply rA_c | apply rO_n | apply rO_s | apply rW_s | apply rW_1 | apply rC_n | apply rC_c)
  | ((with_reducible apply rE_v); · rfl)
  | ((with_reducible apply i_tup); · rfl)
  | ((with_reducible apply rE_g); · assumption)
  | (with_reducible first | apply b_lenT | apply s_tup | apply s_str | apply s_rl | apply p_add | apply p_sub | apply b_int)
  | dsimp only [Bool.not_true, Bool.not_false, CK.d, List.set_cons_zero, List.set_cons_succ, tgO, wipeD, List.map])
local macro_rules | `(tactic| walk_at "es") => `(tactic| repeat walk_at "e")
local macro_rules | `(tactic| walk_at "in") => `(tactic| dsimp only [List.map, List.length_cons, List.length_nil, Nat.reduceAdd, Nat.reduceSub, List.replicate, List.cons_append, List.nil_append])
local macro_rules | `(tactic| walk_at "#") => `(tactic| first
  | (refine n_eqt ?_ ?_; · first | omega | (simp; done))
  | (refine n_eqf ?_ ?_; · first | omega | (simp; done))
  | (refine n_net ?_ ?_; · first | omega | (simp; done))
  | (refine n_nef ?_ ?_; · first | omega | (simp; done))
  | (refine n_ltt ?_ ?_; · first | omega | (simp; done))
  | (refine n_ltf ?_ ?_; · first | omega | (simp; done))
  | (refine n_gtt ?_ ?_; · first | omega | (simp; done))
  | (refine n_gtf ?_ ?_; · first | omega | (simp; done))
  | (refine n_let ?_ ?_; · first | omega | (simp; done))
  | (refine n_lef ?_ ?_; · first | omega | (simp; done))
  | (refine n_get ?_ ?_; · first | omega | (simp; done))
  | (refine n_gef ?_ ?_; · first | omega | (simp; done))
  | fail)
theorem ne_nilD {S : Sto} {c p : Addr} {ds : List D} {ps : List PyData} {P : Bool → Prop} (h1 : S c = some (.lst ds)) (hd : DPs S ds ps) (hs : SeqAt.shaped (.list ps) = true) (h2 : S p = some (.lst [])) (t : ds ≠ [] → P true) (f : ds = [] → P false) : cop .ne (.loc c) (.loc p) S P := by
  refine ⟨.list ps, .list [], .lst h1 hd, .lst h2 .nil, hs, ?_, ?_⟩
  · simp [SeqAt.shaped, PyData.canLay0, PyData.canLayAll0, PyData.depth, PyData.depthAll]
  · cases hd with
    | nil => simp [PyData.eqv, PyData.eqvAll]; exact f rfl
    | cons a r => simp [PyData.eqv, PyData.eqvAll]; exact t (by simp)
theorem b_max2 {i j : Int} {S : Sto} {Q : DK} (h : Q (.int (if j > i then j else i)) S) : biO .max [.int i, .int j] S Q := h
theorem b_min2 {i j : Int} {S : Sto} {Q : DK} (h : Q (.int (if j < i then j else i)) S) : biO .min [.int i, .int j] S Q := h
theorem c_is_int {W : Wd} (h : H_is_int W) {n : Nat} (hn : 1 ≤ n) {d : D} {S : Sto} {Q : DK} {E : DX} (w : Ty S d)
   (t : ∀ i, d = .int i → Q (.bl true) S) (f : isIntD d = false → Q (.bl false) S) : dcall W n 0 [d] S Q E := by
  obtain ⟨n, rfl, hm⟩ := pred hn
  refine call_of h.f_is_int rfl rfl ?_
  unfold b_is_int
  walk_at "in"
  walk_at "es"
  refine k_int w (fun i e => ?_) (fun b e => ?_) fun e1 e2 => ?_
  · subst e
    walk_at "es"
    refine k_bool w (fun z e => by cases e) fun e => ?_
    exact ⟨_, Sub.refl, t _ rfl⟩
  · subst e
    walk_at "es"
    refine k_bool w (fun z e => ?_) fun e => by cases e
    exact ⟨_, Sub.refl, f rfl⟩
  · exact ⟨_, Sub.refl, f e2⟩
def withinD (lo hi : Int) : D → Bool
  | .int i => decide (lo ≤ i ∧ i ≤ hi)
  | _ => false
theorem c_within {W : Wd} (h : H_within W) {n : Nat} (hn : 2 ≤ n) {d : D} {lo hi : Int} {S : Sto} {Q : DK} {E : DX} (w : Ty S d)
   (t : withinD lo hi d = true → Q (.bl true) S) (f : withinD lo hi d = false → Q (.bl false) S) : dcall W n 1 [d, .int lo, .int hi] S Q E := by
  obtain ⟨n, rfl, hm⟩ := pred hn
  refine call_of h.f_within rfl rfl ?_
  unfold b_within
  walk_at "in"
  walk_at "es"
  refine c_is_int h.h_is_int hm w (fun i e => ?_) fun e => ?_
  · subst e
    walk_at "es"
    refine o_le (fun h1 => ?_) fun h1 => ?_
    · walk_at "es"
      refine o_le (fun h2 => ?_) fun h2 => ?_
      · exact ⟨_, Sub.refl, t (by simp [withinD]; omega)⟩
      · exact ⟨_, Sub.refl, f (by simp [withinD]; omega)⟩
    · exact ⟨_, Sub.refl, f (by simp [withinD]; omega)⟩
  · exact ⟨_, Sub.refl, f (by cases d <;> simp_all [isIntD, withinD])⟩
theorem c_is_tuple {W : Wd} (h : H_is_tuple W) {n : Nat} (hn : 1 ≤ n) {d : D} {lo hi : Int} {S : Sto} {Q : DK} {E : DX} (w : Ty S d)
   (t : ∀ xs, d = .tup xs → lo ≤ xs.length → xs.length ≤ hi → Q (.bl true) S) (f : (∀ xs, d = .tup xs → ¬(lo ≤ (xs.length : Int) ∧ (xs.length : Int) ≤ hi)) → Q (.bl false) S) : dcall W n 2 [d, .int lo, .int hi] S Q E := by
  obtain ⟨n, rfl, hm⟩ := pred hn
  refine call_of h.f_is_tuple rfl rfl ?_
  unfold b_is_tuple
  walk_at "in"
  walk_at "es"
  refine k_tup w (fun xs e => ?_) fun e => ?_
  · subst e
    walk_at "es"
    refine o_le (fun h1 => ?_) fun h1 => ?_
    · walk_at "es"
      refine o_le (fun h2 => ?_) fun h2 => ?_
      · exact ⟨_, Sub.refl, t _ rfl h1 h2⟩
      · exact ⟨_, Sub.refl, f (by intro ys e; cases e; omega)⟩
    · exact ⟨_, Sub.refl, f (by intro ys e; cases e; omega)⟩
  · exact ⟨_, Sub.refl, f (by intro ys e1; subst e1; cases e)⟩
abbrev LET : Str := "abcdefghijklmnopqrstuvwxyzABCDEFGHIJKLMNOPQRSTUVWXYZ"
abbrev SML : Str := "abcdefghijklmnopqrstuvwxyz"
abbrev DIG : Str := "0123456789"
abbrev WRD : List D := [.str "def", .str "else", .str "fn", .str "give", .str "if", .str "kind", .str "let", .str "match", .str "whole"]
def hd0 (z : Str) : Nat := z.cps.toList.headD 0
/-- is_name of a text -/
def nameS (z : Str) : Bool := decide (1 ≤ z.length) && (decide (z.length ≤ 10) && (!inD (.str z) WRD && (decide (hd0 z ∈ LET.cps.toList) && z.cps.toList.all fun c => decide (c ∈ LET.cps.toList) || decide (c ∈ DIG.cps.toList))))
def nameD : D → Bool
  | .str z => nameS z
  | _ => false
def chF : D → Bool
  | .str z => decide (hd0 z ∈ LET.cps.toList) || decide (hd0 z ∈ DIG.cps.toList)
  | _ => false
theorem len_str (z : Str) : z.length = z.cps.toList.length := by simp [Str.length]
theorem at0 {z : Str} (h : 1 ≤ z.length) : atI z.cps.toList (0 : Int) = some (hd0 z) := by
  rw [len_str] at h
  unfold hd0
  cases e : z.cps.toList with
  | nil => rw [e] at h; simp at h
  | cons a b =>
    unfold atI ixN
    rw [if_pos (by decide), if_pos (by simp)]
    rfl
abbrev hdS (z : Str) : D := .str ⟨#[hd0 z]⟩
theorem c_is_name {W : Wd} (h : H_is_name W) {n : Nat} (hn : 1 ≤ n) {d : D} {S : Sto} {Q : DK} {E : DX} (w : Ty S d)  (hz : ∀ z, d = .str z → z.length ≤ sizeLine)
   (t : ∀ z, d = .str z → nameS z = true → Q (.bl true) S) (f : nameD d = false → Q (.bl false) S) : dcall W n 3 [d] S Q E := by
  obtain ⟨n, rfl, hm⟩ := pred hn
  refine call_of h.f_is_name rfl rfl ?_
  unfold b_is_name
  walk_at "in"
  walk_at "es"
  refine k_str w (fun z e => ?_) fun e => ?_
  · subst e
    have hz := hz z rfl
    walk_at "es"
    refine b_lenS hz ?_
    refine o_le (fun h1 => ?_) fun h1 => ?_
    · walk_at "es"
      refine rE_g h.c_LONGEST_NAME ?_
      refine o_le (fun h2 => ?_) fun h2 => ?_
      · walk_at "es"
        refine rE_g h.c_WORDS ?_
        refine o_inT rfl rfl (fun h3 => ?_) fun h3 => ?_
        · walk_at "es"
          exact ⟨_, Sub.refl, f (by simp only [nameD, nameS, h3]; simp)⟩
        · walk_at "es"
          refine i_str hz (at0 (by omega)) ?_
          refine rE_g h.c_LETTERS ?_
          refine o_nic (fun h4 => ?_) fun h4 => ?_
          · walk_at "es"
            exact ⟨_, Sub.refl, f (by simp only [nameD, nameS]; simp [h4])⟩
          · walk_at "es"
            intro p hp
            refine lc_all chF (fun _ => trivial) (by rw [List.length_map, ← len_str]; exact hz) (fun d hd acc k hl hk => ?_) ?_
            · obtain ⟨c, hc, rfl⟩ := List.mem_map.mp hd
              walk_at "es"
              refine rE_g h.c_LETTERS ?_
              refine o_inc (fun h5 => ?_) fun h5 => ?_
              · walk_at "es"
                exact ⟨acc, put_same, hl, by rw [put_put]; simpa [chF, hd0, h5] using hk⟩
              · walk_at "es"
                refine rE_g h.c_DIGITS ?_
                refine o_inc (fun h6 => ?_) fun h6 => ?_
                · exact ⟨acc, put_same, hl, by rw [put_put]; simpa [chF, hd0, h5, h6] using hk⟩
                · exact ⟨acc, put_same, hl, by rw [put_put]; simpa [chF, hd0, h5, h6] using hk⟩
            · walk_at "es"
              refine b_allP ?_
              refine ⟨_, Sub.newO Sub.refl hp, ?_⟩
              have e : (z.cps.toList.map fun c => D.str ⟨#[c]⟩).all chF = z.cps.toList.all fun c => decide (c ∈ LET.cps.toList) || decide (c ∈ DIG.cps.toList) := by
                rw [List.all_map]; rfl
              rw [e]
              have g : nameS z = z.cps.toList.all fun c => decide (c ∈ LET.cps.toList) || decide (c ∈ DIG.cps.toList) := by
                unfold nameS
                rw [decide_eq_true (by omega), decide_eq_true (by omega), h3, decide_eq_true h4]
                rfl
              rw [← g]
              cases e2 : nameS z with
              | true => exact t z rfl e2
              | false => exact f e2
      · walk_at "es"
        exact ⟨_, Sub.refl, f (by simp only [nameD, nameS]; simp; omega)⟩
    · walk_at "es"
      exact ⟨_, Sub.refl, f (by simp only [nameD, nameS]; simp; omega)⟩
  · walk_at "es"
    exact ⟨_, Sub.refl, f (by cases d <;> simp_all [isStrD, nameD])⟩
def lowS (z : Str) : Bool := nameS z && decide (hd0 z ∈ SML.cps.toList)
def highS (z : Str) : Bool := nameS z && !decide (hd0 z ∈ SML.cps.toList)
def freeS (z : Str) : Bool := highS z && !decide (L2.cutS z none (some 2) = "Fn")
def kindS (z : Str) : Bool := highS z || decide (z = "whole")
def lowD : D → Bool
  | .str z => lowS z
  | _ => false
def highD : D → Bool
  | .str z => highS z
  | _ => false
def freeD : D → Bool
  | .str z => freeS z
  | _ => false
def kindD : D → Bool
  | .str z => kindS z
  | _ => false
theorem name_len {z : Str} (h : nameS z = true) : 1 ≤ z.length ∧ z.length ≤ 10 := by
  unfold nameS at h
  simp at h
  exact ⟨h.1, h.2.1⟩
theorem c_is_low {W : Wd} (h : H_is_low W) {n : Nat} (hn : 2 ≤ n) {d : D} {S : Sto} {Q : DK} {E : DX} (w : Ty S d) (hz : ∀ z, d = .str z → z.length ≤ sizeLine)
   (t : lowD d = true → Q (.bl true) S) (f : lowD d = false → Q (.bl false) S) : dcall W n 4 [d] S Q E := by
  obtain ⟨n, rfl, hm⟩ := pred hn
  refine call_of h.f_is_low rfl rfl ?_
  unfold b_is_low
  walk_at "in"
  walk_at "es"
  refine c_is_name h.h_is_name hm w hz (fun z e h1 => ?_) fun h1 => ?_
  · subst e
    walk_at "es"
    refine i_str (hz z rfl) (at0 (name_len h1).1) ?_
    refine rE_g h.c_SMALL ?_
    refine o_inc (fun h2 => ?_) fun h2 => ?_
    · exact ⟨_, Sub.refl, t (by simp only [lowD, lowS, h1, decide_eq_true h2]; rfl)⟩
    · exact ⟨_, Sub.refl, f (by simp only [lowD, lowS, h1, decide_eq_false h2]; rfl)⟩
  · walk_at "es"
    exact ⟨_, Sub.refl, f (by cases d <;> simp_all [nameD, lowD, lowS])⟩
theorem c_is_high {W : Wd} (h : H_is_high W) {n : Nat} (hn : 2 ≤ n) {d : D} {S : Sto} {Q : DK} {E : DX} (w : Ty S d) (hz : ∀ z, d = .str z → z.length ≤ sizeLine)
   (t : ∀ z, d = .str z → highS z = true → Q (.bl true) S) (f : highD d = false → Q (.bl false) S) : dcall W n 5 [d] S Q E := by
  obtain ⟨n, rfl, hm⟩ := pred hn
  refine call_of h.f_is_high rfl rfl ?_
  unfold b_is_high
  walk_at "in"
  walk_at "es"
  refine c_is_name h.h_is_name hm w hz (fun z e h1 => ?_) fun h1 => ?_
  · subst e
    walk_at "es"
    refine i_str (hz z rfl) (at0 (name_len h1).1) ?_
    refine rE_g h.c_SMALL ?_
    refine o_nic (fun h2 => ?_) fun h2 => ?_
    · exact ⟨_, Sub.refl, t z rfl (by simp only [highS, h1, decide_eq_false h2]; rfl)⟩
    · exact ⟨_, Sub.refl, f (by simp only [highD, highS, h1, decide_eq_true h2]; rfl)⟩
  · walk_at "es"
    exact ⟨_, Sub.refl, f (by cases d <;> simp_all [nameD, highD, highS])⟩
theorem c_is_free_name {W : Wd} (h : H_is_free_name W) {n : Nat} (hn : 3 ≤ n) {d : D} {S : Sto} {Q : DK} {E : DX} (w : Ty S d) (hz : ∀ z, d = .str z → z.length ≤ sizeLine)
   (t : freeD d = true → Q (.bl true) S) (f : freeD d = false → Q (.bl false) S) : dcall W n 6 [d] S Q E := by
  obtain ⟨n, rfl, hm⟩ := pred hn
  refine call_of h.f_is_free_name rfl rfl ?_
  unfold b_is_free_name
  walk_at "in"
  walk_at "es"
  refine c_is_high h.h_is_high hm w hz (fun z e h1 => ?_) fun h1 => ?_
  · subst e
    walk_at "es"
    refine ⟨hz z rfl, ?_⟩
    walk_at "es"
    refine o_nes (fun h2 => ?_) fun h2 => ?_
    · exact ⟨_, Sub.refl, t (by simp only [freeD, freeS, h1, decide_eq_false h2]; rfl)⟩
    · exact ⟨_, Sub.refl, f (by simp only [freeD, freeS, h1, decide_eq_true h2]; rfl)⟩
  · walk_at "es"
    exact ⟨_, Sub.refl, f (by cases d <;> simp_all [highD, freeD, freeS])⟩
theorem c_is_kind_name {W : Wd} (h : H_is_kind_name W) {n : Nat} (hn : 3 ≤ n) {d : D} {S : Sto} {Q : DK} {E : DX} (w : Ty S d) (hz : ∀ z, d = .str z → z.length ≤ sizeLine)
   (t : kindD d = true → Q (.bl true) S) (f : kindD d = false → Q (.bl false) S) : dcall W n 7 [d] S Q E := by
  obtain ⟨n, rfl, hm⟩ := pred hn
  refine call_of h.f_is_kind_name rfl rfl ?_
  unfold b_is_kind_name
  walk_at "in"
  walk_at "es"
  refine c_is_high h.h_is_high hm w hz (fun z e h1 => ?_) fun h1 => ?_
  · subst e
    walk_at "es"
    exact ⟨_, Sub.refl, t (by simp only [kindD, kindS, h1]; rfl)⟩
  · walk_at "es"
    refine k_str w (fun z e => ?_) fun e => ?_
    · subst e
      walk_at "es"
      refine o_eqs (fun h2 => ?_) fun h2 => ?_
      · exact ⟨_, Sub.refl, t (by simp only [kindD, kindS, decide_eq_true h2, Bool.or_true])⟩
      · exact ⟨_, Sub.refl, f (by simp only [highD] at h1; simp only [kindD, kindS, decide_eq_false h2, h1]; rfl)⟩
    · walk_at "es"
      exact ⟨_, Sub.refl, f (by cases d <;> simp_all [isStrD, kindD])⟩
inductive WF (S : Sto) : D → Prop
  | non : WF S .non
  | bl {b : Bool} : WF S (.bl b)
  | int {i : Int} : WF S (.int i)
  | str {z : Str} : z.length ≤ sizeLine → WF S (.str z)
  | loc {a : Addr} {xs : List D} : S a = some (.lst xs) → WF S (.loc a)
  | tup {xs : List D} : (∀ x, x ∈ xs → WF S x) → (∀ x, xs[0]? = some x → isStrD x = true ∨ EqOk S x) → (∀ x, xs.length = 4 → xs[1]? = some x → isW "op" (xs.headD .non) = true → flatD x = true) → xs.length ≤ sizeLine → WF S (.tup xs)
section
variable {S S' : Sto}
theorem WF.ty {d : D} : WF S d → Ty S d
  | .non => ⟨_, rfl⟩
  | .bl => ⟨_, rfl⟩
  | .int => ⟨_, rfl⟩
  | .str _ => ⟨_, rfl⟩
  | .loc h => .lst h
  | .tup .. => ⟨_, rfl⟩
theorem WF.len {d : D} (w : WF S d) : ∀ z, d = .str z → z.length ≤ sizeLine := by
  intro z e; subst e; cases w; assumption
theorem WF.mem {xs : List D} (w : WF S (.tup xs)) : ∀ x, x ∈ xs → WF S x := by cases w; assumption
theorem WF.hd {xs : List D} (w : WF S (.tup xs)) : ∀ x, xs[0]? = some x → isStrD x = true ∨ EqOk S x := by cases w; assumption
theorem WF.hdc {x : D} {xs : List D} (w : WF S (.tup (x :: xs))) : isStrD x = true ∨ EqOk S x := w.hd x rfl
theorem WF.op {xs : List D} (w : WF S (.tup xs)) : ∀ x, xs.length = 4 → xs[1]? = some x → isW "op" (xs.headD .non) = true → flatD x = true := by cases w; assumption
theorem WF.sz {xs : List D} (w : WF S (.tup xs)) : xs.length ≤ sizeLine := by cases w; assumption
mutual
theorem DP.mono (s : Sub S S') : ∀ {x : D} {d : PyData}, DP S x d → DP S' x d
  | _, _, .non => .non
  | _, _, .bl b => .bl b
  | _, _, .int b => .int b
  | _, _, .str b => .str b
  | _, _, .lst h k => .lst (s _ _ h) (DPs.mono s k)
  | _, _, .rl k => .rl (DPs.mono s k)
  | _, _, .tup k => .tup (DPs.mono s k)
theorem DPs.mono (s : Sub S S') : ∀ {x : List D} {d : List PyData}, DPs S x d → DPs S' x d
  | _, _, .nil => .nil
  | _, _, .cons h k => .cons (DP.mono s h) (DPs.mono s k)
end
theorem EqOk.mono (s : Sub S S') {x : D} : EqOk S x → EqOk S' x := fun ⟨d, h, k⟩ => ⟨d, DP.mono s h, k⟩
theorem WF.mono (s : Sub S S') {d : D} (w : WF S d) : WF S' d := by
  induction w with
  | non => exact .non
  | bl => exact .bl
  | int => exact .int
  | str h => exact .str h
  | loc h => exact .loc (s _ _ h)
  | tup h1 h2 h3 h4 ih => exact .tup ih (fun x e => (h2 x e).imp id (EqOk.mono s)) h3 h4
end
theorem two {xs : List D} {lo hi : Int} (h1 : lo ≤ xs.length) (h2 : (xs.length : Int) ≤ hi) (e1 : lo = 2) (e2 : hi = 2) : ∃ a b, xs = [a, b] := by
  match xs with
  | [a, b] => exact ⟨a, b, rfl⟩
  | [] => simp at h1; omega
  | [a] => simp at h1; omega
  | a :: b :: c :: r => simp at h2; omega
theorem three {xs : List D} {lo hi : Int} (h1 : lo ≤ xs.length) (h2 : (xs.length : Int) ≤ hi) (e1 : lo = 3) (e2 : hi = 3) : ∃ a b c, xs = [a, b, c] := by
  match xs with
  | [a, b, c] => exact ⟨a, b, c, rfl⟩
  | [] => simp at h1; omega
  | [a] => simp at h1; omega
  | [a, b] => simp at h1; omega
  | a :: b :: c :: d :: r => simp at h2; omega
def typeF : Nat → D → Bool
  | 0, d => kindD d
  | k + 1, d => match d with
    | .tup [t, a, b] => decide (1 ≤ k) && (isW "to" t && (typeF k a && typeF k b))
    | d => kindD d
theorem typeF_str {k : Nat} {z : Str} : typeF k (.str z) = kindS z := by cases k <;> rfl
theorem typeF_no {k : Nat} {d : D} (e : isStrD d = false) (h : ∀ a b c, d = .tup [a, b, c] → k < 2) : typeF k d = false := by
  cases k with
  | zero => cases d <;> first | rfl | cases e
  | succ k =>
    unfold typeF
    split
    · have := h _ _ _ rfl
      rw [decide_eq_false (by omega)]
      rfl
    · cases d <;> first | rfl | cases e
theorem c_is_type {W : Wd} (h : H_is_type W) : ∀ (k : Nat) {n : Nat} (hn : k + 5 ≤ n) {d : D} {S : Sto} {Q : DK} {E : DX} (w : WF S d) (t : typeF k d = true → Q (.bl true) S) (f : typeF k d = false → Q (.bl false) S), dcall W n 8 [d, .int k] S Q E := by
  intro k
  induction k with
  | zero =>
    intro n hn d S Q E w t f
    obtain ⟨n, rfl, hm⟩ := pred hn
    refine call_of h.f_is_type rfl rfl ?_
    unfold b_is_type
    walk_at "in"
    walk_at "es"
    refine k_str w.ty (fun z e => ?_) fun e => ?_
    · subst e
      walk_at "es"
      exact c_is_kind_name h.h_is_kind_name (by omega) w.ty w.len (fun g => ⟨_, Sub.refl, t g⟩) fun g => ⟨_, Sub.refl, f g⟩
    · walk_at "es"
      refine n_ltt (by decide) ?_
      walk_at "es"
      exact ⟨_, Sub.refl, f (typeF_no e fun _ _ _ _ => by omega)⟩
  | succ k ih =>
    intro n hn d S Q E w t f
    obtain ⟨n, rfl, hm⟩ := pred hn
    refine call_of h.f_is_type rfl rfl ?_
    unfold b_is_type
    walk_at "in"
    walk_at "es"
    refine k_str w.ty (fun z e => ?_) fun e => ?_
    · subst e
      walk_at "es"
      exact c_is_kind_name h.h_is_kind_name (by omega) w.ty w.len (fun g => ⟨_, Sub.refl, t g⟩) fun g => ⟨_, Sub.refl, f g⟩
    · walk_at "es"
      refine o_lt (fun h1 => ?_) fun h1 => ?_
      · walk_at "es"
        exact ⟨_, Sub.refl, f (typeF_no e fun _ _ _ _ => by omega)⟩
      · walk_at "es"
        refine c_is_tuple h.h_is_tuple (by omega) w.ty (fun xs e1 h1 h2 => ?_) fun h1 => ?_
        · subst e1
          obtain ⟨a, b, c, rfl⟩ := three h1 h2 rfl rfl
          walk_at "es"
          refine k_str (w.mem a (by simp)).ty (fun z e => ?_) fun e => ?_
          · subst e
            walk_at "es"
            refine o_nes (fun h3 => ?_) fun h3 => ?_
            · walk_at "es"
              exact ⟨_, Sub.refl, f (by simp [typeF, isW, h3])⟩
            · walk_at "es"
              have e1 : ((k + 1 : Nat) : Int) - 1 = (k : Int) := by omega
              show dcall W n 8 [b, .int (((k + 1 : Nat) : Int) - 1)] S _ _
              rw [e1]
              refine ih (by omega) (w.mem b (by simp)) (fun g => ?_) fun g => ?_
              · walk_at "es"
                show dcall W n 8 [c, .int (((k + 1 : Nat) : Int) - 1)] S _ _
                rw [e1]
                refine ih (by omega) (w.mem c (by simp)) (fun g2 => ?_) fun g2 => ?_
                · exact ⟨_, Sub.refl, t (by simp [typeF, isW, h3, g, g2]; omega)⟩
                · exact ⟨_, Sub.refl, f (by simp [typeF, isW, h3, g, g2])⟩
              · exact ⟨_, Sub.refl, f (by simp [typeF, isW, h3, g])⟩
          · walk_at "es"
            exact ⟨_, Sub.refl, f (by cases a <;> simp_all [typeF, isW, isStrD])⟩
        · walk_at "es"
          refine ⟨_, Sub.refl, f (typeF_no e fun a b c g => absurd ⟨?_, ?_⟩ (h1 _ g))⟩ <;> simp
def makerF : D → Bool
  | .tup [a, .tup fs] => freeD a && (decide (fs.length ≤ 5) && fs.all (typeF 6))
  | _ => false
theorem c_is_maker {W : Wd} (h : H_is_maker W) {n : Nat} (hn : 12 ≤ n) {d : D} {S : Sto} {Q : DK} {E : DX} (w : WF S d) (t : makerF d = true → Q (.bl true) S) (f : makerF d = false → Q (.bl false) S) : dcall W n 9 [d] S Q E := by
  obtain ⟨n, rfl, hm⟩ := pred hn
  refine call_of h.f_is_maker rfl rfl ?_
  unfold b_is_maker
  walk_at "in"
  walk_at "es"
  refine c_is_tuple h.h_is_tuple (by omega) w.ty (fun xs e1 h1 h2 => ?_) fun h1 => ?_
  · subst e1
    obtain ⟨a, b, rfl⟩ := two h1 h2 rfl rfl
    have wa := w.mem a (by simp)
    have wb := w.mem b (by simp)
    walk_at "es"
    refine c_is_free_name h.h_is_free_name (by omega) wa.ty wa.len (fun g1 => ?_) fun g1 => ?_
    · walk_at "es"
      refine rE_g h.c_MOST_FIELDS ?_
      walk_at "es"
      refine c_is_tuple h.h_is_tuple (by omega) wb.ty (fun xs e1 h3 h4 => ?_) fun h3 => ?_
      · subst e1
        walk_at "es"
        intro p hp
        refine lc_all (typeF 6) (fun _ => trivial) wb.sz (fun d hd acc k hl hk => ?_) ?_
        · walk_at "es"
          refine rE_g h.c_DEEPEST_TYPE ?_
          walk_at "es"
          refine c_is_type h.h_is_type 6 (by omega) ((wb.mem d hd).mono (Sub.newO Sub.refl hp)) (fun g => ?_) fun g => ?_
          · exact ⟨acc, put_same, hl, by rw [put_put]; rw [g] at hk; exact hk⟩
          · exact ⟨acc, put_same, hl, by rw [put_put]; rw [g] at hk; exact hk⟩
        · walk_at "es"
          refine b_allP ?_
          refine ⟨_, Sub.newO Sub.refl hp, ?_⟩
          have e : makerF (.tup [a, .tup xs]) = xs.all (typeF 6) := by
            simp only [makerF, g1]; rw [decide_eq_true (by omega)]; rfl
          rw [← e]
          cases g : makerF (.tup [a, .tup xs])
          · exact f g
          · exact t g
      · walk_at "es"
        refine ⟨_, Sub.refl, f ?_⟩
        unfold makerF
        split
        · rename_i x a' fs e
          simp only [D.tup.injEq, List.cons.injEq, and_true] at e
          obtain ⟨rfl, e⟩ := e
          have := h3 _ e
          rw [decide_eq_false (fun g => this ⟨by omega, by omega⟩)]
          simp
        · rfl
    · walk_at "es"
      refine ⟨_, Sub.refl, f ?_⟩
      unfold makerF
      split
      · rename_i x a' fs e
        simp only [D.tup.injEq, List.cons.injEq, and_true] at e
        obtain ⟨rfl, e⟩ := e
        simp [g1]
      · rfl
  · walk_at "es"
    refine ⟨_, Sub.refl, f ?_⟩
    unfold makerF
    split
    · exact absurd ⟨by simp, by simp⟩ (h1 _ rfl)
    · rfl
def entryF : D → Bool
  | .tup [a, .tup ms] => freeD a && (decide (1 ≤ ms.length ∧ ms.length ≤ 8) && ms.all makerF)
  | _ => false
def kindsF : D → Bool
  | .tup es => decide (es.length ≤ 8) && es.all entryF
  | _ => false
theorem all_step {α : Type} {F : α → Bool} {es r : List α} {x : α} (h : es.all F = (x :: r).all F) (g : F x = false) : es.all F = false := by
  rw [h, List.all_cons, g]; rfl
theorem all_go {α : Type} {F : α → Bool} {es r : List α} {x : α} (h : es.all F = (x :: r).all F) (g : F x = true) : es.all F = r.all F := by
  rw [h, List.all_cons, g]; rfl
theorem c_are_program_kinds {W : Wd} (h : H_are_program_kinds W) {n : Nat} (hn : 14 ≤ n) {d : D} {S : Sto} {Q : DK} {E : DX} (w : WF S d) (t : kindsF d = true → Q (.bl true) S) (f : kindsF d = false → Q (.bl false) S) : dcall W n 10 [d] S Q E := by
  obtain ⟨n, rfl, hm⟩ := pred hn
  refine call_of h.f_are_program_kinds rfl rfl ?_
  unfold b_are_program_kinds
  walk_at "in"
  walk_at "es"
  refine rE_g h.c_MOST_KINDS ?_
  walk_at "es"
  refine c_is_tuple h.h_is_tuple (by omega) w.ty (fun es e1 h1 h2 => ?_) fun h1 => ?_
  · subst e1
    walk_at "es"
    refine forL_inv (fun r δ S' => S' = S ∧ (∃ o1 o2, δ = [some (.tup es), o1, o2]) ∧ es.all entryF = r.all entryF ∧ ∀ x, x ∈ r → x ∈ es) (fun _ _ _ _ => trivial) ?_ ?_ es _ S ⟨rfl, ⟨_, _, rfl⟩, rfl, fun _ h => h⟩
    · rintro x r δ S' ⟨rfl, ⟨o1, o2, rfl⟩, ha, hr⟩ k hk
      have wx := w.mem x (hr x (List.mem_cons_self ..))
      have bad : entryF x = false → Q (.bl false) S' := fun g => f (by simp only [kindsF, all_step ha g]; simp)
      walk_at "es"
      refine c_is_tuple h.h_is_tuple (by omega) wx.ty (fun xs e1 h3 h4 => ?_) fun h3 => ?_
      · subst e1
        obtain ⟨a, b, rfl⟩ := two h3 h4 rfl rfl
        have wa := wx.mem a (by simp)
        have wb := wx.mem b (by simp)
        walk_at "es"
        refine c_is_free_name h.h_is_free_name (by omega) wa.ty wa.len (fun g1 => ?_) fun g1 => ?_
        · walk_at "es"
          refine rE_g h.c_MOST_MAKERS ?_
          walk_at "es"
          refine c_is_tuple h.h_is_tuple (by omega) wb.ty (fun xs e1 h5 h6 => ?_) fun h5 => ?_
          · subst e1
            walk_at "es"
            intro p hp
            refine lc_all makerF (fun _ => trivial) wb.sz (fun d hd acc k hl hk => ?_) ?_
            · walk_at "es"
              refine c_is_maker h.h_is_maker (by omega) ((wb.mem d hd).mono (Sub.newO Sub.refl hp)) (fun g => ?_) fun g => ?_
              · exact ⟨acc, put_same, hl, by rw [put_put]; rw [g] at hk; exact hk⟩
              · exact ⟨acc, put_same, hl, by rw [put_put]; rw [g] at hk; exact hk⟩
            · walk_at "es"
              refine b_allP ?_
              have e : entryF (.tup [a, .tup xs]) = xs.all makerF := by
                simp only [entryF, g1]; rw [decide_eq_true (by omega)]; rfl
              cases g : xs.all makerF with
              | true =>
                walk_at "es"
                exact hk _ _ S' (Sub.newO Sub.refl hp) ⟨rfl, ⟨_, _, rfl⟩, all_go ha (e.trans g), fun x hx => hr x (List.mem_cons_of_mem _ hx)⟩
              | false =>
                walk_at "es"
                exact ⟨_, Sub.newO Sub.refl hp, bad (e.trans g)⟩
          · walk_at "es"
            refine ⟨_, Sub.refl, bad ?_⟩
            unfold entryF
            split
            · rename_i x a' fs e
              simp only [D.tup.injEq, List.cons.injEq, and_true] at e
              obtain ⟨rfl, e⟩ := e
              have := h5 _ e
              rw [decide_eq_false (fun g => this ⟨by omega, by omega⟩)]
              simp
            · rfl
        · walk_at "es"
          refine ⟨_, Sub.refl, bad ?_⟩
          unfold entryF
          split
          · rename_i x a' fs e
            simp only [D.tup.injEq, List.cons.injEq, and_true] at e
            obtain ⟨rfl, e⟩ := e
            simp [g1]
          · rfl
      · walk_at "es"
        refine ⟨_, Sub.refl, bad ?_⟩
        unfold entryF
        split
        · exact absurd ⟨by simp, by simp⟩ (h3 _ rfl)
        · rfl
    · rintro δ S' ⟨rfl, ⟨o1, o2, rfl⟩, ha, hr⟩
      walk_at "es"
      exact ⟨_, Sub.refl, t (by simp only [kindsF, ha]; simp; omega)⟩
  · walk_at "es"
    refine ⟨_, Sub.refl, f ?_⟩
    unfold kindsF
    split
    · have := h1 _ rfl
      rw [decide_eq_false (fun g => this ⟨by omega, by omega⟩)]
      simp
    · rfl
def allM (F : D → Int → Bool × Int) : List D → Int → Bool × Int
  | [], m => (true, m)
  | x :: xs, m => match F x m with
    | (true, m') => allM F xs m'
    | r => r
def thenM (r : Bool × Int) (g : Int → Bool × Int) : Bool × Int := match r with
  | (true, m') => g m'
  | r => r
mutual
def exprF : Nat → D → Int → Bool × Int
  | 0, _, m => (false, m)
  | f + 1, .tup [w, a], m => if m - 1 < 0 then (false, m - 1) else if isW "num" w then (withinD (-1000000000000) 1000000000000 a, m - 1) else if isW "name" w then (lowD a, m - 1) else (false, m - 1)
  | f + 1, .tup [w, a, b], m => if m - 1 < 0 then (false, m - 1) else if isW "num" w then (false, m - 1) else if isW "name" w then (false, m - 1) else if isW "op" w then (false, m - 1) else
    if isW "times" w then (if withinD (-1000000) 1000000 a then exprF f b (m - 1) else (false, m - 1)) else
    if isW "make" w then (if freeD a then (match b with
      | .tup xs => if xs.length ≤ 5 then allM (exprF f) xs (m - 1) else (false, m - 1)
      | _ => (false, m - 1)) else (false, m - 1)) else
    if isW "fn" w then (if lowD a then (if m - 1 - 1 < 0 then (false, m - 1 - 1) else bodyF f b (m - 1 - 1)) else (false, m - 1)) else
    if isW "app" w then thenM (exprF f a (m - 1)) (exprF f b) else (false, m - 1)
  | f + 1, .tup [w, o, a, b], m => if m - 1 < 0 then (false, m - 1) else if isW "num" w then (false, m - 1) else if isW "name" w then (false, m - 1) else
    if isW "op" w then (if inD o [.str "+", .str "-"] then thenM (exprF f a (m - 1)) (exprF f b) else (false, m - 1)) else (false, m - 1)
  | _ + 1, _, m => (false, m)
def bodyF : Nat → D → Int → Bool × Int
  | 0, _, m => (false, m)
  | f + 1, .tup [w, a], m => if m - 1 < 0 then (false, m - 1) else if isW "give" w then exprF f a (m - 1) else (false, m - 1)
  | f + 1, .tup [w, a, b], m => if m - 1 < 0 then (false, m - 1) else if isW "give" w then (false, m - 1) else if isW "let" w then (false, m - 1) else if isW "if" w then (false, m - 1) else
    if isW "match" w then thenM (exprF f a (m - 1)) fun m' => (match b with
      | .tup xs => if 1 ≤ xs.length ∧ xs.length ≤ 8 then allM (fun x m => match x with
          | .tup [k, .tup ns, c] => if freeD k && (decide (ns.length ≤ 5) && ns.all lowD) then (if m - ns.length < 0 then (false, m - ns.length) else bodyF f c (m - ns.length)) else (false, m)
          | _ => (false, m)) xs m' else (false, m')
      | _ => (false, m')) else (false, m - 1)
  | f + 1, .tup [w, x, a, b], m => if m - 1 < 0 then (false, m - 1) else if isW "give" w then (false, m - 1) else
    if isW "let" w then (if lowD x then (if m - 1 - 1 < 0 then (false, m - 1 - 1) else thenM (exprF f a (m - 1 - 1)) (bodyF f b)) else (false, m - 1)) else (false, m - 1)
  | f + 1, .tup [w, a, b, c, d], m => if m - 1 < 0 then (false, m - 1) else if isW "give" w then (false, m - 1) else if isW "let" w then (false, m - 1) else
    if isW "if" w then thenM (exprF f a (m - 1)) fun m' => thenM (exprF f b m') fun m' => thenM (bodyF f c m') (bodyF f d) else (false, m - 1)
  | _ + 1, _, m => (false, m)
end
def branchF (f : Nat) (x : D) (m : Int) : Bool × Int := match x with
  | .tup [k, .tup ns, c] => if freeD k && (decide (ns.length ≤ 5) && ns.all lowD) then (if m - ns.length < 0 then (false, m - ns.length) else bodyF f c (m - ns.length)) else (false, m)
  | _ => (false, m)
/-- the store with a meter -/
def mS (W : Wd) (S : Sto) (m dx : Addr) (k : Int) : Sto := put S m (.ins (W.cls 0) dx 0 [("spare", .int k)])
theorem mS_at {W : Wd} {S : Sto} {m dx : Addr} {k : Int} : mS W S m dx k m = some (.ins (W.cls 0) dx 0 [("spare", .int k)]) := put_same
theorem mS_sub {W : Wd} {S : Sto} {m dx : Addr} {k : Int} (h : S m = none) : Sub S (mS W S m dx k) := Sub.newO Sub.refl h
theorem c_take {W : Wd} (h : H_Meter_take W) {n : Nat} (hn : 1 ≤ n) {m dx : Addr} {k j : Int} {S : Sto} {Q : DK} {E : DX} 
   (t : ¬k - j < 0 → Q (.bl true) (mS W S m dx (k - j))) (f : k - j < 0 → Q (.bl false) (mS W S m dx (k - j))) : dcall W n 12 [.loc m, .int j] (mS W S m dx k) Q E := by
  obtain ⟨n, rfl, hm⟩ := pred hn
  refine call_of h.f_Meter_take rfl rfl ?_
  unfold b_Meter_take
  walk_at "in"
  walk_at "es"
  refine rS_augv rfl mS_at h.a_0_spare rfl ?_
  walk_at "es"
  refine ⟨dx, 0, _, mS_at, by simp, ?_⟩
  walk_at "es"
  refine rE_fldv rfl put_same h.a_0_spare rfl ?_
  walk_at "es"
  have e : put (mS W S m dx k) m (.ins (W.cls 0) dx 0 (putD "spare" (.int (k - j)) [("spare", .int k)])) = mS W S m dx (k - j) := by
    unfold mS; rw [put_put]; rfl
  refine o_ge (fun g => ⟨_, Sub.refl, ?_⟩) fun g => ⟨_, Sub.refl, ?_⟩
  · have t := t (by omega)
    rw [← e] at t
    exact t
  · have f := f (by omega)
    rw [← e] at f
    exact f
def SpE (W : Wd) (f : Nat) : Prop := ∀ {n : Nat}, 2 * f + 8 ≤ n → ∀ {d : D} {m dx : Addr} {k : Int} {S : Sto} {Q : DK} {E : DX}, S m = none → WF S d →
  (∀ k', exprF f d k = (true, k') → Q (.bl true) (mS W S m dx k')) → (∀ k', exprF f d k = (false, k') → Q (.bl false) (mS W S m dx k')) → dcall W n 13 [d, .int (31 - (f : Int)), .loc m] (mS W S m dx k) Q E
def SpB (W : Wd) (f : Nat) : Prop := ∀ {n : Nat}, 2 * f + 8 ≤ n → ∀ {d : D} {m dx : Addr} {k : Int} {S : Sto} {Q : DK} {E : DX}, S m = none → WF S d →
  (∀ k', bodyF f d k = (true, k') → Q (.bl true) (mS W S m dx k')) → (∀ k', bodyF f d k = (false, k') → Q (.bl false) (mS W S m dx k')) → dcall W n 16 [d, .int (31 - (f : Int)), .loc m] (mS W S m dx k) Q E
theorem arity4 {xs : List D} {lo hi : Int} (h1 : lo ≤ xs.length) (h2 : (xs.length : Int) ≤ hi) (e1 : lo = 2) (e2 : hi = 4) : (∃ w a, xs = [w, a]) ∨ (∃ w a b, xs = [w, a, b]) ∨ ∃ w a b c, xs = [w, a, b, c] := by
  match xs with
  | [a, b] => exact .inl ⟨a, b, rfl⟩
  | [a, b, c] => exact .inr (.inl ⟨a, b, c, rfl⟩)
  | [a, b, c, d] => exact .inr (.inr ⟨a, b, c, d, rfl⟩)
  | [] => simp at h1; omega
  | [a] => simp at h1; omega
  | a :: b :: c :: d :: e :: r => simp at h2; omega
theorem arity5 {xs : List D} {lo hi : Int} (h1 : lo ≤ xs.length) (h2 : (xs.length : Int) ≤ hi) (e1 : lo = 2) (e2 : hi = 5) : (∃ w a, xs = [w, a]) ∨ (∃ w a b, xs = [w, a, b]) ∨ (∃ w a b c, xs = [w, a, b, c]) ∨ ∃ w a b c d, xs = [w, a, b, c, d] := by
  match xs with
  | [a, b] => exact .inl ⟨a, b, rfl⟩
  | [a, b, c] => exact .inr (.inl ⟨a, b, c, rfl⟩)
  | [a, b, c, d] => exact .inr (.inr (.inl ⟨a, b, c, d, rfl⟩))
  | [a, b, c, d, e] => exact .inr (.inr (.inr ⟨a, b, c, d, e, rfl⟩))
  | [] => simp at h1; omega
  | [a] => simp at h1; omega
  | a :: b :: c :: d :: e :: g :: r => simp at h2; omega
theorem WF.up {S : Sto} {W : Wd} {m dx : Addr} {k : Int} {d : D} (w : WF S d) (h : S m = none) : WF (mS W S m dx k) d := w.mono (mS_sub h)
theorem hdup {S : Sto} {W : Wd} {m dx : Addr} {k : Int} {d : D} (w : isStrD d = true ∨ EqOk S d) (h : S m = none) : isStrD d = true ∨ EqOk (mS W S m dx k) d := w.imp id (EqOk.mono (mS_sub h))
/-- are_args -/
theorem c_are_args {W : Wd} (h : H_is_expression W) {f : Nat} (ih : SpE W f) {n : Nat} (hn : 2 * f + 9 ≤ n) {d : D} {m dx : Addr} {k : Int} {S : Sto} {Q : DK} {E : DX} (hS : S m = none) (w : WF S d)
   (t : ∀ xs k', d = .tup xs → xs.length ≤ 5 → allM (exprF f) xs k = (true, k') → Q (.bl true) (mS W S m dx k')) (g : ∀ xs k', d = .tup xs → xs.length ≤ 5 → allM (exprF f) xs k = (false, k') → Q (.bl false) (mS W S m dx k'))
   (g2 : (∀ xs, d = .tup xs → ¬xs.length ≤ 5) → Q (.bl false) (mS W S m dx k)) : dcall W n 14 [d, .int (31 - ((f + 1 : Nat) : Int)), .loc m] (mS W S m dx k) Q E := by
  obtain ⟨n, rfl, hm⟩ := pred hn
  have k9 := h.c_MOST_FIELDS
  refine call_of h.f_are_args rfl rfl ?_
  unfold b_are_args
  walk_at "in"
  walk_at "es"
  refine c_is_tuple h.h_is_tuple (by omega) (w.up hS).ty (fun es e1 h1 h2 => ?_) fun h1 => ?_
  · subst e1
    have hl : es.length ≤ 5 := by omega
    walk_at "es"
    refine forL_inv (fun r δ S' => ∃ k2, S' = mS W S m dx k2 ∧ (∃ o, δ = [some (.tup es), some (.int (31 - ((f + 1 : Nat) : Int))), some (.loc m), o]) ∧ allM (exprF f) es k = allM (exprF f) r k2 ∧ ∀ x, x ∈ r → x ∈ es) (fun _ _ _ _ => trivial) ?_ ?_ es _ _ ⟨k, rfl, ⟨_, rfl⟩, rfl, fun _ h => h⟩
    · rintro x r δ S' ⟨k2, rfl, ⟨o, rfl⟩, ha, hr⟩ kk hk
      have wx := w.mem x (hr x (List.mem_cons_self ..))
      walk_at "es"
      rw [show (31 : Int) - ((f + 1 : Nat) : Int) + 1 = 31 - (f : Int) by omega]
      refine ih (by omega) hS wx (fun k3 e => ?_) fun k3 e => ?_
      · walk_at "es"
        refine hk _ _ _ Sub.refl ⟨k3, rfl, ⟨_, rfl⟩, ?_, fun x hx => hr x (List.mem_cons_of_mem _ hx)⟩
        rw [ha]; simp only [allM, e]
      · walk_at "es"
        refine ⟨_, Sub.refl, g es k3 rfl hl ?_⟩
        rw [ha]; simp only [allM, e]
    · rintro δ S' ⟨k2, rfl, ⟨o, rfl⟩, ha, hr⟩
      walk_at "es"
      exact ⟨_, Sub.refl, t es k2 rfl hl ha⟩
  · walk_at "es"
    exact ⟨_, Sub.refl, g2 fun xs e g => h1 xs e ⟨by omega, by omega⟩⟩
theorem c_is_branch {W : Wd} (h : H_is_expression W) {f : Nat} (ih : SpB W f) {n : Nat} (hn : 2 * f + 9 ≤ n) {d : D} {m dx : Addr} {k : Int} {S : Sto} {Q : DK} {E : DX} (hS : S m = none) (w : WF S d)
   (t : ∀ k', branchF f d k = (true, k') → Q (.bl true) (mS W S m dx k')) (g : ∀ k', branchF f d k = (false, k') → Q (.bl false) (mS W S m dx k')) : dcall W n 15 [d, .int (31 - ((f + 1 : Nat) : Int)), .loc m] (mS W S m dx k) Q E := by
  obtain ⟨n, rfl, hm⟩ := pred hn
  have k9 := h.c_MOST_FIELDS
  have eD : (31 : Int) - ((f + 1 : Nat) : Int) + 1 = 31 - (f : Int) := by omega
  refine call_of h.f_is_branch rfl rfl ?_
  unfold b_is_branch
  walk_at "in"
  walk_at "es"
  refine c_is_tuple h.h_is_tuple (by omega) (w.up hS).ty (fun es e1 h1 h2 => ?_) fun h1 => ?_
  · subst e1
    obtain ⟨a, b, c, rfl⟩ := three h1 h2 rfl rfl
    have wa := w.mem a (by simp)
    have wb := w.mem b (by simp)
    have wc := w.mem c (by simp)
    walk_at "es"
    refine c_is_free_name h.h_is_free_name (by omega) (wa.up hS).ty wa.len (fun g1 => ?_) fun g1 => ?_
    · walk_at "es"
      refine c_is_tuple h.h_is_tuple (by omega) (wb.up hS).ty (fun ns e1 h3 h4 => ?_) fun h3 => ?_
      · subst e1
        walk_at "es"
        intro p hp
        refine lc_all lowD (fun _ => trivial) wb.sz (fun d hd acc k hl hk => ?_) ?_
        · walk_at "es"
          have wd := wb.mem d hd
          refine c_is_low h.h_is_low (by omega) ((wd.up hS).mono (Sub.newO Sub.refl hp)).ty wd.len (fun g => ?_) fun g => ?_
          · exact ⟨acc, put_same, hl, by rw [put_put]; rw [g] at hk; exact hk⟩
          · exact ⟨acc, put_same, hl, by rw [put_put]; rw [g] at hk; exact hk⟩
        · walk_at "es"
          refine b_allP ?_
          have np : p ≠ m := (ne_st mS_at hp).symm
          have em : ∀ k o, put (mS W S m dx k) p o = mS W (put S p o) m dx k := fun k o => by unfold mS; rw [put_comm np.symm]
          have hS2 : ∀ o, put S p o m = none := fun o => by rw [put_ne np.symm]; exact hS
          cases g2 : ns.all lowD with
          | true =>
            walk_at "es"
            rw [em]
            refine rE_methv rfl mS_at h.m_Meter_take rfl ?_
            walk_at "es"
            refine c_take h.h_meter_take (by omega) (fun g3 => ?_) fun g3 => ?_
            · walk_at "es"
              rw [eD]
              have hp2 : S p = none := (mS_sub hS).noneO hp
              refine ih (by omega) (hS2 _) (wc.mono (Sub.newO Sub.refl hp2)) (fun k3 e => ?_) fun k3 e => ?_
              · refine ⟨_, Sub.putO (Sub.newO Sub.refl hp2), t _ ?_⟩
                simp only [branchF, g1, g2, decide_eq_true (show ns.length ≤ 5 by omega), Bool.true_and, if_true, if_neg g3, e]
              · refine ⟨_, Sub.putO (Sub.newO Sub.refl hp2), g _ ?_⟩
                simp only [branchF, g1, g2, decide_eq_true (show ns.length ≤ 5 by omega), Bool.true_and, if_true, if_neg g3, e]
            · walk_at "es"
              have hp2 : S p = none := (mS_sub hS).noneO hp
              refine ⟨_, Sub.putO (Sub.newO Sub.refl hp2), g _ ?_⟩
              simp only [branchF, g1, g2, decide_eq_true (show ns.length ≤ 5 by omega), Bool.true_and, if_true, if_pos g3]
          | false =>
            walk_at "es"
            refine ⟨_, Sub.newO Sub.refl hp, g _ ?_⟩
            simp [branchF, g2]
      · walk_at "es"
        refine ⟨_, Sub.refl, g _ ?_⟩
        cases b with
        | tup ns =>
          have := h3 ns rfl
          simp only [branchF]
          rw [decide_eq_false (by omega)]
          simp
        | _ => rfl
    · walk_at "es"
      refine ⟨_, Sub.refl, g _ ?_⟩
      cases b with
      | tup ns => simp [branchF, g1]
      | _ => rfl
  · walk_at "es"
    refine ⟨_, Sub.refl, g _ ?_⟩
    unfold branchF
    split
    · exact absurd ⟨by simp, by simp⟩ (h1 _ rfl)
    · rfl
theorem c_expr {W : Wd} (h : H_is_expression W) : ∀ f, SpE W f ∧ SpB W f := by
  intro f
  have k9 := h.c_MOST_FIELDS
  have k5 := h.c_GREATEST_NUMBER
  have k6 := h.c_GREATEST_FACTOR
  have k13 := h.c_LONGEST_CHAIN
  have k8 := h.c_MOST_MAKERS
  induction f with
  | zero =>
    refine ⟨?_, ?_⟩
    · intro n hn d m dx k S Q E hS w t g
      obtain ⟨n, rfl, hm⟩ := pred hn
      refine call_of h.f_is_expression rfl rfl ?_
      unfold b_is_expression
      walk_at "in"
      walk_at "es"
      refine n_gtt (by decide) ?_
      walk_at "es"
      exact ⟨_, Sub.refl, g _ rfl⟩
    · intro n hn d m dx k S Q E hS w t g
      obtain ⟨n, rfl, hm⟩ := pred hn
      refine call_of h.f_is_body rfl rfl ?_
      unfold b_is_body
      walk_at "in"
      walk_at "es"
      refine n_gtt (by decide) ?_
      walk_at "es"
      exact ⟨_, Sub.refl, g _ rfl⟩
  | succ f ih =>
    have eD : (31 : Int) - ((f + 1 : Nat) : Int) + 1 = 31 - (f : Int) := by omega
    refine ⟨?_, ?_⟩
    · intro n hn d m dx k S Q E hS w t g
      obtain ⟨n, rfl, hm⟩ := pred hn
      refine call_of h.f_is_expression rfl rfl ?_
      unfold b_is_expression
      walk_at "in"
      walk_at "es"
      refine n_gtf (by omega) ?_
      walk_at "es"
      refine c_is_tuple h.h_is_tuple (by omega) (w.up hS).ty (fun xs e1 h1 h2 => ?_) fun h1 => ?_
      · subst e1
        walk_at "es"
        refine rE_methv rfl mS_at h.m_Meter_take rfl ?_
        walk_at "es"
        refine c_take h.h_meter_take (by omega) (fun g1 => ?_) fun g1 => ?_
        · rcases arity4 h1 h2 rfl rfl with ⟨w1, a, rfl⟩ | ⟨w1, a, b, rfl⟩ | ⟨w1, a, b, c, rfl⟩
          · have wa := w.mem a (by simp)
            have ww := hdup (W := W) (dx := dx) (k := k - 1) w.hdc hS
            walk_at "es"
            refine w_eq (by kernel_rfl) ww (fun g2 => ?_) fun g2 => ?_
            · walk_at "es"
              walk_at "#"
              walk_at "es"
              refine c_within h.h_within (by omega) (wa.up hS).ty (fun g3 => ?_) fun g3 => ?_
              · exact ⟨_, Sub.refl, t _ (by simp only [exprF, if_neg g1, g2, if_true, g3])⟩
              · exact ⟨_, Sub.refl, g _ (by simp only [exprF, if_neg g1, g2, if_true, g3])⟩
            · walk_at "es"
              refine w_eq (by kernel_rfl) ww (fun g3 => ?_) fun g3 => ?_
              · walk_at "es"
                walk_at "#"
                walk_at "es"
                refine c_is_low h.h_is_low (by omega) (wa.up hS).ty wa.len (fun g4 => ?_) fun g4 => ?_
                · exact ⟨_, Sub.refl, t _ (by simp [exprF, g1, g2, g3, g4])⟩
                · exact ⟨_, Sub.refl, g _ (by simp [exprF, g1, g2, g3, g4])⟩
              · walk_at "es"
                refine w_eq (by kernel_rfl) ww (fun g4 => ?_) fun g4 => ?_
                · walk_at "es"
                  walk_at "#"
                  walk_at "es"
                  exact ⟨_, Sub.refl, g _ (by simp [exprF, g1, g2, g3, g4])⟩
                · walk_at "es"
                  walk_at "#"
                  walk_at "es"
                  exact ⟨_, Sub.refl, g _ (by simp [exprF, g1, g2, g3, g4])⟩
          · have wa := w.mem a (by simp)
            have wb := w.mem b (by simp)
            have ww := hdup (W := W) (dx := dx) (k := k - 1) w.hdc hS
            walk_at "es"
            refine w_eq (by kernel_rfl) ww (fun g2 => ?_) fun g2 => ?_
            · walk_at "es"
              walk_at "#"
              walk_at "es"
              exact ⟨_, Sub.refl, g _ (by simp [exprF, g1, g2])⟩
            walk_at "es"
            refine w_eq (by kernel_rfl) ww (fun g3 => ?_) fun g3 => ?_
            · walk_at "es"
              walk_at "#"
              walk_at "es"
              exact ⟨_, Sub.refl, g _ (by simp [exprF, g1, g2, g3])⟩
            walk_at "es"
            refine w_eq (by kernel_rfl) ww (fun g4 => ?_) fun g4 => ?_
            · walk_at "es"
              walk_at "#"
              walk_at "es"
              exact ⟨_, Sub.refl, g _ (by simp [exprF, g1, g2, g3, g4])⟩
            walk_at "es"
            walk_at "#"
            walk_at "es"
            refine w_eq (by kernel_rfl) ww (fun g5 => ?_) fun g5 => ?_
            · walk_at "es"
              refine c_within h.h_within (by omega) (wa.up hS).ty (fun g6 => ?_) fun g6 => ?_
              · walk_at "es"
                rw [eD]
                refine ih.1 (by omega) hS wb (fun k3 e => ?_) fun k3 e => ?_
                · exact ⟨_, Sub.refl, t _ (by simp [exprF, g1, g2, g3, g4, g5, g6, e])⟩
                · exact ⟨_, Sub.refl, g _ (by simp [exprF, g1, g2, g3, g4, g5, g6, e])⟩
              · exact ⟨_, Sub.refl, g _ (by simp [exprF, g1, g2, g3, g4, g5, g6])⟩
            walk_at "es"
            refine w_eq (by kernel_rfl) ww (fun g6 => ?_) fun g6 => ?_
            · walk_at "es"
              refine c_is_free_name h.h_is_free_name (by omega) (wa.up hS).ty wa.len (fun g7 => ?_) fun g7 => ?_
              · walk_at "es"
                refine c_are_args h ih.1 (by omega) hS wb (fun xs k' e1 e2 e3 => ?_) (fun xs k' e1 e2 e3 => ?_) fun e1 => ?_
                · subst e1
                  exact ⟨_, Sub.refl, t _ (by simp [exprF, g1, g2, g3, g4, g5, g6, g7, e2, e3])⟩
                · subst e1
                  exact ⟨_, Sub.refl, g _ (by simp [exprF, g1, g2, g3, g4, g5, g6, g7, e2, e3])⟩
                · refine ⟨_, Sub.refl, g _ ?_⟩
                  cases b with
                  | tup xs => simp [exprF, g1, g2, g3, g4, g5, g6, g7]; intro e; exact absurd e (e1 xs rfl)
                  | _ => simp [exprF, g1, g2, g3, g4, g5, g6, g7]
              · exact ⟨_, Sub.refl, g _ (by simp [exprF, g1, g2, g3, g4, g5, g6, g7])⟩
            walk_at "es"
            refine w_eq (by kernel_rfl) ww (fun g7 => ?_) fun g7 => ?_
            · walk_at "es"
              refine c_is_low h.h_is_low (by omega) (wa.up hS).ty wa.len (fun g8 => ?_) fun g8 => ?_
              · walk_at "es"
                refine rE_methv rfl mS_at h.m_Meter_take rfl ?_
                walk_at "es"
                refine c_take h.h_meter_take (by omega) (fun g9 => ?_) fun g9 => ?_
                · walk_at "es"
                  rw [eD]
                  refine ih.2 (by omega) hS wb (fun k3 e => ?_) fun k3 e => ?_
                  · exact ⟨_, Sub.refl, t _ (by simp only [exprF, if_neg g1, if_neg g9, g2, g3, g4, g5, g6, g7, g8, e]; simp)⟩
                  · exact ⟨_, Sub.refl, g _ (by simp only [exprF, if_neg g1, if_neg g9, g2, g3, g4, g5, g6, g7, g8, e]; simp)⟩
                · exact ⟨_, Sub.refl, g _ (by simp only [exprF, if_neg g1, if_pos g9, g2, g3, g4, g5, g6, g7, g8]; simp)⟩
              · exact ⟨_, Sub.refl, g _ (by simp [exprF, g1, g2, g3, g4, g5, g6, g7, g8])⟩
            walk_at "es"
            refine w_ne (by kernel_rfl) ww (fun g8 => ?_) fun g8 => ?_
            · walk_at "es"
              exact ⟨_, Sub.refl, g _ (by simp [exprF, g1, g2, g3, g4, g5, g6, g7, g8])⟩
            walk_at "es"
            rw [eD]
            refine ih.1 (by omega) hS wa (fun k3 e => ?_) fun k3 e => ?_
            · walk_at "es"
              rw [eD]
              refine ih.1 (by omega) hS wb (fun k4 e4 => ?_) fun k4 e4 => ?_
              · exact ⟨_, Sub.refl, t _ (by simp [exprF, thenM, g1, g2, g3, g4, g5, g6, g7, g8, e, e4])⟩
              · exact ⟨_, Sub.refl, g _ (by simp [exprF, thenM, g1, g2, g3, g4, g5, g6, g7, g8, e, e4])⟩
            · exact ⟨_, Sub.refl, g _ (by simp [exprF, thenM, g1, g2, g3, g4, g5, g6, g7, g8, e])⟩
          · have wo := w.op a rfl rfl
            have wa := w.mem a (by simp)
            have wb := w.mem b (by simp)
            have wc := w.mem c (by simp)
            have ww := hdup (W := W) (dx := dx) (k := k - 1) w.hdc hS
            walk_at "es"
            refine w_eq (by kernel_rfl) ww (fun g2 => ?_) fun g2 => ?_
            · walk_at "es"
              walk_at "#"
              walk_at "es"
              exact ⟨_, Sub.refl, g _ (by simp [exprF, g1, g2])⟩
            walk_at "es"
            refine w_eq (by kernel_rfl) ww (fun g3 => ?_) fun g3 => ?_
            · walk_at "es"
              walk_at "#"
              walk_at "es"
              exact ⟨_, Sub.refl, g _ (by simp [exprF, g1, g2, g3])⟩
            walk_at "es"
            refine w_eq (by kernel_rfl) ww (fun g4 => ?_) fun g4 => ?_
            · walk_at "es"
              walk_at "#"
              walk_at "es"
              refine ⟨by decide, ?_⟩
              refine o_niT (wo g4) rfl (fun g5 => ?_) fun g5 => ?_
              · walk_at "es"
                exact ⟨_, Sub.refl, g _ (by simp [exprF, g1, g2, g3, g4, g5])⟩
              · walk_at "es"
                rw [eD]
                refine ih.1 (by omega) hS wb (fun k3 e => ?_) fun k3 e => ?_
                · walk_at "es"
                  rw [eD]
                  refine ih.1 (by omega) hS wc (fun k4 e4 => ?_) fun k4 e4 => ?_
                  · exact ⟨_, Sub.refl, t _ (by simp [exprF, thenM, g1, g2, g3, g4, g5, e, e4])⟩
                  · exact ⟨_, Sub.refl, g _ (by simp [exprF, thenM, g1, g2, g3, g4, g5, e, e4])⟩
                · exact ⟨_, Sub.refl, g _ (by simp [exprF, thenM, g1, g2, g3, g4, g5, e])⟩
            walk_at "es"
            walk_at "#"
            walk_at "es"
            exact ⟨_, Sub.refl, g _ (by simp [exprF, g1, g2, g3, g4])⟩
        · walk_at "es"
          refine ⟨_, Sub.refl, g _ ?_⟩
          rcases arity4 h1 h2 rfl rfl with ⟨w1, a, rfl⟩ | ⟨w1, a, b, rfl⟩ | ⟨w1, a, b, c, rfl⟩ <;> simp [exprF, g1]
      · walk_at "es"
        refine ⟨_, Sub.refl, g _ ?_⟩
        unfold exprF
        split
        all_goals first | exact absurd ⟨by simp, by simp⟩ (h1 _ rfl) | rfl
    · intro n hn d m dx k S Q E hS w t g
      obtain ⟨n, rfl, hm⟩ := pred hn
      refine call_of h.f_is_body rfl rfl ?_
      unfold b_is_body
      walk_at "in"
      walk_at "es"
      refine n_gtf (by omega) ?_
      walk_at "es"
      refine c_is_tuple h.h_is_tuple (by omega) (w.up hS).ty (fun xs e1 h1 h2 => ?_) fun h1 => ?_
      · subst e1
        walk_at "es"
        refine rE_methv rfl mS_at h.m_Meter_take rfl ?_
        walk_at "es"
        refine c_take h.h_meter_take (by omega) (fun g1 => ?_) fun g1 => ?_
        · rcases arity5 h1 h2 rfl rfl with ⟨w1, a, rfl⟩ | ⟨w1, a, b, rfl⟩ | ⟨w1, a, b, c, rfl⟩ | ⟨w1, a, b, c, d, rfl⟩
          · have wa := w.mem a (by simp)
            have ww := hdup (W := W) (dx := dx) (k := k - 1) w.hdc hS
            walk_at "es"
            refine w_eq (by kernel_rfl) ww (fun g2 => ?_) fun g2 => ?_
            · walk_at "es"
              walk_at "#"
              walk_at "es"
              rw [eD]
              refine ih.1 (by omega) hS wa (fun k3 e => ?_) fun k3 e => ?_
              · exact ⟨_, Sub.refl, t _ (by simp [bodyF, g1, g2, e])⟩
              · exact ⟨_, Sub.refl, g _ (by simp [bodyF, g1, g2, e])⟩
            walk_at "es"
            refine w_eq (by kernel_rfl) ww (fun g3 => ?_) fun g3 => ?_
            · walk_at "es"
              walk_at "#"
              walk_at "es"
              exact ⟨_, Sub.refl, g _ (by simp [bodyF, g1, g2])⟩
            walk_at "es"
            refine w_eq (by kernel_rfl) ww (fun g4 => ?_) fun g4 => ?_
            · walk_at "es"
              walk_at "#"
              walk_at "es"
              exact ⟨_, Sub.refl, g _ (by simp [bodyF, g1, g2])⟩
            walk_at "es"
            refine w_ne (by kernel_rfl) ww (fun g5 => ?_) fun g5 => ?_
            · walk_at "es"
              exact ⟨_, Sub.refl, g _ (by simp [bodyF, g1, g2])⟩
            walk_at "es"
            walk_at "#"
            walk_at "es"
            exact ⟨_, Sub.refl, g _ (by simp [bodyF, g1, g2])⟩
          · have wa := w.mem a (by simp)
            have wb := w.mem b (by simp)
            have ww := hdup (W := W) (dx := dx) (k := k - 1) w.hdc hS
            walk_at "es"
            refine w_eq (by kernel_rfl) ww (fun g2 => ?_) fun g2 => ?_
            · walk_at "es"
              walk_at "#"
              walk_at "es"
              exact ⟨_, Sub.refl, g _ (by simp [bodyF, g1, g2])⟩
            walk_at "es"
            refine w_eq (by kernel_rfl) ww (fun g3 => ?_) fun g3 => ?_
            · walk_at "es"
              walk_at "#"
              walk_at "es"
              exact ⟨_, Sub.refl, g _ (by simp [bodyF, g1, g2, g3])⟩
            walk_at "es"
            refine w_eq (by kernel_rfl) ww (fun g4 => ?_) fun g4 => ?_
            · walk_at "es"
              walk_at "#"
              walk_at "es"
              exact ⟨_, Sub.refl, g _ (by simp [bodyF, g1, g2, g3, g4])⟩
            walk_at "es"
            refine w_ne (by kernel_rfl) ww (fun g5 => ?_) fun g5 => ?_
            · walk_at "es"
              exact ⟨_, Sub.refl, g _ (by simp [bodyF, g1, g2, g3, g4, g5])⟩
            walk_at "es"
            walk_at "#"
            walk_at "es"
            rw [eD]
            refine ih.1 (by omega) hS wa (fun k3 e3 => ?_) fun k3 e3 => ?_
            · walk_at "es"
              refine c_is_tuple h.h_is_tuple (by omega) (wb.up hS).ty (fun es e1 h3 h4 => ?_) fun h3 => ?_
              · subst e1
                walk_at "es"
                have eb : ∀ r, allM (branchF f) es k3 = r → bodyF (f + 1) (.tup [w1, a, .tup es]) k = r := fun r e => by
                  have l : 1 ≤ es.length ∧ es.length ≤ 8 := by omega
                  simp only [bodyF, thenM, if_neg g1, g2, g3, g4, g5, e3, if_pos l, if_true, Bool.false_eq_true, if_false]
                  exact e
                refine forL_inv (fun r δ S' => ∃ k2, S' = mS W S m dx k2 ∧ (∃ o, δ = [some (.tup [w1, a, .tup es]), some (.int (31 - ((f + 1 : Nat) : Int))), some (.loc m), some w1, o]) ∧ allM (branchF f) es k3 = allM (branchF f) r k2 ∧ ∀ x, x ∈ r → x ∈ es) (fun _ _ _ _ => trivial) ?_ ?_ es _ _ ⟨k3, rfl, ⟨_, rfl⟩, rfl, fun _ h => h⟩
                · rintro x r δ S' ⟨k2, rfl, ⟨o, rfl⟩, ha, hr⟩ kk hk
                  have wx := wb.mem x (hr x (List.mem_cons_self ..))
                  walk_at "es"
                  refine c_is_branch h ih.2 (by omega) hS wx (fun k3 e => ?_) fun k3 e => ?_
                  · walk_at "es"
                    refine hk _ _ _ Sub.refl ⟨k3, rfl, ⟨_, rfl⟩, ?_, fun x hx => hr x (List.mem_cons_of_mem _ hx)⟩
                    rw [ha]; simp only [allM, e]
                  · walk_at "es"
                    refine ⟨_, Sub.refl, g k3 (eb _ ?_)⟩
                    rw [ha]; simp only [allM, e]
                · rintro δ S' ⟨k2, rfl, ⟨o, rfl⟩, ha, hr⟩
                  walk_at "es"
                  exact ⟨_, Sub.refl, t k2 (eb _ ha)⟩
              · walk_at "es"
                refine ⟨_, Sub.refl, g k3 ?_⟩
                cases b with
                | tup es =>
                  have l : ¬(1 ≤ es.length ∧ es.length ≤ 8) := fun q => h3 es rfl ⟨by omega, by omega⟩
                  simp only [bodyF, thenM, if_neg g1, g2, g3, g4, g5, e3, if_neg l, if_true, Bool.false_eq_true, if_false]
                | _ => simp [bodyF, thenM, g1, g2, g3, g4, g5, e3]
            · walk_at "es"
              exact ⟨_, Sub.refl, g _ (by simp [bodyF, thenM, g1, g2, g3, g4, g5, e3])⟩
          · have wa := w.mem a (by simp)
            have wb := w.mem b (by simp)
            have wc := w.mem c (by simp)
            have ww := hdup (W := W) (dx := dx) (k := k - 1) w.hdc hS
            walk_at "es"
            refine w_eq (by kernel_rfl) ww (fun g2 => ?_) fun g2 => ?_
            · walk_at "es"
              walk_at "#"
              walk_at "es"
              exact ⟨_, Sub.refl, g _ (by simp [bodyF, g1, g2])⟩
            walk_at "es"
            refine w_eq (by kernel_rfl) ww (fun g3 => ?_) fun g3 => ?_
            · walk_at "es"
              walk_at "#"
              walk_at "es"
              refine c_is_low h.h_is_low (by omega) (wa.up hS).ty wa.len (fun g8 => ?_) fun g8 => ?_
              · walk_at "es"
                refine rE_methv rfl mS_at h.m_Meter_take rfl ?_
                walk_at "es"
                refine c_take h.h_meter_take (by omega) (fun g9 => ?_) fun g9 => ?_
                · walk_at "es"
                  rw [eD]
                  refine ih.1 (by omega) hS wb (fun k3 e => ?_) fun k3 e => ?_
                  · walk_at "es"
                    rw [eD]
                    refine ih.2 (by omega) hS wc (fun k4 e4 => ?_) fun k4 e4 => ?_
                    · exact ⟨_, Sub.refl, t _ (by simp only [bodyF, thenM, if_neg g1, if_neg g9, g2, g3, g8, e, e4]; simp)⟩
                    · exact ⟨_, Sub.refl, g _ (by simp only [bodyF, thenM, if_neg g1, if_neg g9, g2, g3, g8, e, e4]; simp)⟩
                  · exact ⟨_, Sub.refl, g _ (by simp only [bodyF, thenM, if_neg g1, if_neg g9, g2, g3, g8, e]; simp)⟩
                · walk_at "es"
                  exact ⟨_, Sub.refl, g _ (by simp only [bodyF, thenM, if_neg g1, if_pos g9, g2, g3, g8]; simp)⟩
              · walk_at "es"
                exact ⟨_, Sub.refl, g _ (by simp [bodyF, thenM, g1, g2, g3, g8])⟩
            walk_at "es"
            refine w_eq (by kernel_rfl) ww (fun g4 => ?_) fun g4 => ?_
            · walk_at "es"
              walk_at "#"
              walk_at "es"
              exact ⟨_, Sub.refl, g _ (by simp [bodyF, g1, g2, g3])⟩
            walk_at "es"
            refine w_ne (by kernel_rfl) ww (fun g5 => ?_) fun g5 => ?_
            · walk_at "es"
              exact ⟨_, Sub.refl, g _ (by simp [bodyF, g1, g2, g3])⟩
            walk_at "es"
            walk_at "#"
            walk_at "es"
            exact ⟨_, Sub.refl, g _ (by simp [bodyF, g1, g2, g3])⟩
          · have wa := w.mem a (by simp)
            have wb := w.mem b (by simp)
            have wc := w.mem c (by simp)
            have wd := w.mem d (by simp)
            have ww := hdup (W := W) (dx := dx) (k := k - 1) w.hdc hS
            walk_at "es"
            refine w_eq (by kernel_rfl) ww (fun g2 => ?_) fun g2 => ?_
            · walk_at "es"
              walk_at "#"
              walk_at "es"
              exact ⟨_, Sub.refl, g _ (by simp [bodyF, g1, g2])⟩
            walk_at "es"
            refine w_eq (by kernel_rfl) ww (fun g3 => ?_) fun g3 => ?_
            · walk_at "es"
              walk_at "#"
              walk_at "es"
              exact ⟨_, Sub.refl, g _ (by simp [bodyF, g1, g2, g3])⟩
            walk_at "es"
            refine w_eq (by kernel_rfl) ww (fun g4 => ?_) fun g4 => ?_
            · walk_at "es"
              walk_at "#"
              walk_at "es"
              rw [eD]
              refine ih.1 (by omega) hS wa (fun k3 e3 => ?_) fun k3 e3 => ?_
              · walk_at "es"
                rw [eD]
                refine ih.1 (by omega) hS wb (fun k4 e4 => ?_) fun k4 e4 => ?_
                · walk_at "es"
                  rw [eD]
                  refine ih.2 (by omega) hS wc (fun k5 e5 => ?_) fun k5 e5 => ?_
                  · walk_at "es"
                    rw [eD]
                    refine ih.2 (by omega) hS wd (fun k6 e6 => ?_) fun k6 e6 => ?_
                    · exact ⟨_, Sub.refl, t _ (by simp [bodyF, thenM, g1, g2, g3, g4, e3, e4, e5, e6])⟩
                    · exact ⟨_, Sub.refl, g _ (by simp [bodyF, thenM, g1, g2, g3, g4, e3, e4, e5, e6])⟩
                  · exact ⟨_, Sub.refl, g _ (by simp [bodyF, thenM, g1, g2, g3, g4, e3, e4, e5])⟩
                · walk_at "es"
                  exact ⟨_, Sub.refl, g _ (by simp [bodyF, thenM, g1, g2, g3, g4, e3, e4])⟩
              · walk_at "es"
                exact ⟨_, Sub.refl, g _ (by simp [bodyF, thenM, g1, g2, g3, g4, e3])⟩
            walk_at "es"
            refine w_ne (by kernel_rfl) ww (fun g5 => ?_) fun g5 => ?_
            · walk_at "es"
              exact ⟨_, Sub.refl, g _ (by simp [bodyF, g1, g2, g3, g4])⟩
            walk_at "es"
            walk_at "#"
            walk_at "es"
            exact ⟨_, Sub.refl, g _ (by simp [bodyF, g1, g2, g3, g4])⟩
        · walk_at "es"
          refine ⟨_, Sub.refl, g _ ?_⟩
          rcases arity5 h1 h2 rfl rfl with ⟨w1, a, rfl⟩ | ⟨w1, a, b, rfl⟩ | ⟨w1, a, b, c, rfl⟩ | ⟨w1, a, b, c, d, rfl⟩ <;> simp [bodyF, g1]
      · walk_at "es"
        refine ⟨_, Sub.refl, g _ ?_⟩
        unfold bodyF
        split
        all_goals first | exact absurd ⟨by simp, by simp⟩ (h1 _ rfl) | rfl
theorem c_meter_init {W : Wd} (h : H_Meter_init W) {n : Nat} (hn : 1 ≤ n) {m dx : Addr} {S : Sto} {Q : DK} {E : DX} (q : Q .non (mS W S m dx 100)) : dcall W n 11 [.loc m] (put S m (.ins (W.cls 0) dx 0 [])) Q E := by
  obtain ⟨n, rfl, hm⟩ := pred hn
  have k12 := h.c_MOST_PARTS
  refine call_of h.f_Meter_init rfl rfl ?_
  unfold b_Meter_init
  walk_at "in"
  walk_at "es"
  refine at_ins (Γ := W.gm (dcall W n)) (k := 0) put_same h.a_0_spare (by simp) ?_
  refine ⟨_, Sub.refl, ?_⟩
  rw [put_put]
  exact q
def defF : D → Bool
  | .tup [a, .tup ps, b] => lowD a && (decide (ps.length ≤ 6) && (ps.all lowD && (bodyF 30 b 100).1))
  | _ => false
theorem c_is_def {W : Wd} (h : H_is_def W) {n : Nat} (hn : 70 ≤ n) {d : D} {S : Sto} {Q : DK} {E : DX} (w : WF S d) (t : defF d = true → Q (.bl true) S) (g : defF d = false → Q (.bl false) S) : dcall W n 17 [d] S Q E := by
  obtain ⟨n, rfl, hm⟩ := pred hn
  have k11 := h.c_MOST_PARAMS
  refine call_of h.f_is_def rfl rfl ?_
  unfold b_is_def
  walk_at "in"
  walk_at "es"
  refine c_is_tuple h.h_is_tuple (by omega) w.ty (fun es e1 h1 h2 => ?_) fun h1 => ?_
  · subst e1
    obtain ⟨a, b, c, rfl⟩ := three h1 h2 rfl rfl
    have wa := w.mem a (by simp)
    have wb := w.mem b (by simp)
    have wc := w.mem c (by simp)
    walk_at "es"
    refine c_is_low h.h_is_low (by omega) wa.ty wa.len (fun g1 => ?_) fun g1 => ?_
    · walk_at "es"
      refine c_is_tuple h.h_is_tuple (by omega) wb.ty (fun ns e1 h3 h4 => ?_) fun h3 => ?_
      · subst e1
        walk_at "es"
        intro p hp
        refine lc_all lowD (fun _ => trivial) wb.sz (fun d hd acc k hl hk => ?_) ?_
        · walk_at "es"
          have wd := wb.mem d hd
          refine c_is_low h.h_is_low (by omega) (wd.mono (Sub.newO Sub.refl hp)).ty wd.len (fun g => ?_) fun g => ?_
          · exact ⟨acc, put_same, hl, by rw [put_put]; rw [g] at hk; exact hk⟩
          · exact ⟨acc, put_same, hl, by rw [put_put]; rw [g] at hk; exact hk⟩
        · walk_at "es"
          refine b_allP ?_
          cases g2 : ns.all lowD with
          | true =>
            walk_at "es"
            refine rE_new ?_
            walk_at "es"
            intro x dx hx hdx hne
            rw [show (W.gm (dcall W n)).ini 0 = 11 from h.ini_Meter]
            refine c_meter_init h.h_meter_init (by omega) ⟨rfl, ?_⟩
            walk_at "es"
            have hs2 : Sub S (put S p (O.lst (List.map D.bl (List.map lowD ns)))) := Sub.newO Sub.refl hp
            have hs3 : Sub S (mS W (put S p (O.lst (List.map D.bl (List.map lowD ns)))) x dx (bodyF 30 c 100).2) := Sub.newO hs2 (hs2.noneO hx)
            refine (c_expr h.h_is_expression 30).2 (by omega) hx (wc.mono hs2) (fun k3 e => ?_) fun k3 e => ?_
            · rw [e] at hs3
              exact ⟨_, hs3, t (by simp only [defF, g1, g2, e]; simp; omega)⟩
            · rw [e] at hs3
              exact ⟨_, hs3, g (by simp only [defF, g1, g2, e]; simp)⟩
          | false =>
            walk_at "es"
            refine ⟨_, Sub.newO Sub.refl hp, g ?_⟩
            simp [defF, g2]
      · walk_at "es"
        refine ⟨_, Sub.refl, g ?_⟩
        cases b with
        | tup ns =>
          have := h3 ns rfl
          simp only [defF]
          rw [decide_eq_false (by omega)]
          simp
        | _ => rfl
    · walk_at "es"
      refine ⟨_, Sub.refl, g ?_⟩
      cases b with
      | tup ns => simp [defF, g1]
      | _ => rfl
  · walk_at "es"
    refine ⟨_, Sub.refl, g ?_⟩
    unfold defF
    split
    · exact absurd ⟨by simp, by simp⟩ (h1 _ rfl)
    · rfl
def treeF : D → Bool
  | .tup [ks, .tup ds] => kindsF ks && (decide (ds.length ≤ 12) && ds.all defF)
  | _ => false
theorem c_is_tree {W : Wd} (h : H_is_tree W) {n : Nat} (hn : 71 ≤ n) {d : D} {S : Sto} {Q : DK} {E : DX} (w : WF S d) (t : treeF d = true → Q (.bl true) S) (g : treeF d = false → Q (.bl false) S) : dcall W n 18 [d] S Q E := by
  obtain ⟨n, rfl, hm⟩ := pred hn
  have k10 := h.c_MOST_DEFS
  refine call_of h.f_is_tree rfl rfl ?_
  unfold b_is_tree
  walk_at "in"
  walk_at "es"
  refine c_is_tuple h.h_is_tuple (by omega) w.ty (fun es e1 h1 h2 => ?_) fun h1 => ?_
  · subst e1
    obtain ⟨a, b, rfl⟩ := two h1 h2 rfl rfl
    have wa := w.mem a (by simp)
    have wb := w.mem b (by simp)
    walk_at "es"
    refine c_are_program_kinds h.h_are_program_kinds (by omega) wa (fun g1 => ?_) fun g1 => ?_
    · walk_at "es"
      refine c_is_tuple h.h_is_tuple (by omega) wb.ty (fun ns e1 h3 h4 => ?_) fun h3 => ?_
      · subst e1
        walk_at "es"
        intro p hp
        refine lc_all defF (fun _ => trivial) wb.sz (fun d hd acc k hl hk => ?_) ?_
        · walk_at "es"
          have wd := wb.mem d hd
          refine c_is_def h.h_is_def (by omega) (wd.mono (Sub.newO Sub.refl hp)) (fun g => ?_) fun g => ?_
          · exact ⟨acc, put_same, hl, by rw [put_put]; rw [g] at hk; exact hk⟩
          · exact ⟨acc, put_same, hl, by rw [put_put]; rw [g] at hk; exact hk⟩
        · walk_at "es"
          refine b_allP ⟨_, Sub.newO Sub.refl hp, ?_⟩
          have e : treeF (.tup [a, .tup ns]) = ns.all defF := by
            simp only [treeF, g1]; rw [decide_eq_true (by omega)]; rfl
          rw [← e]
          cases g2 : treeF (.tup [a, .tup ns])
          · exact g g2
          · exact t g2
      · walk_at "es"
        refine ⟨_, Sub.refl, g ?_⟩
        cases b with
        | tup ns =>
          have := h3 ns rfl
          simp only [treeF]
          rw [decide_eq_false (by omega)]
          simp
        | _ => rfl
    · walk_at "es"
      refine ⟨_, Sub.refl, g ?_⟩
      cases b with
      | tup ns => simp [treeF, g1]
      | _ => rfl
  · walk_at "es"
    refine ⟨_, Sub.refl, g ?_⟩
    unfold treeF
    split
    · exact absurd ⟨by simp, by simp⟩ (h1 _ rfl)
    · rfl
theorem c_is_program {W : Wd} (h : H_is_program W) {n : Nat} (hn : 72 ≤ n) {d : D} {S : Sto} {Q : DK} {E : DX} (w : WF S d) (t : treeF d = true → Q (.bl true) S) (g : treeF d = false → Q (.bl false) S) : dcall W n 19 [d] S Q E := by
  obtain ⟨n, rfl, hm⟩ := pred hn
  refine call_of h.f_is_program rfl rfl ?_
  unfold b_is_program
  walk_at "in"
  walk_at "es"
  exact c_is_tree h.h_is_tree (by omega) w (fun e => ⟨_, Sub.refl, t e⟩) fun e => ⟨_, Sub.refl, g e⟩
structure UV where
  l : Int
  m : Int
  k : Int
  cs : List Int
structure UV.ok (v : UV) (B : Int) : Prop where
  l0 : 0 ≤ v.l
  m0 : 0 ≤ v.m
  m1 : v.m < 2147483647
  k0 : 0 ≤ v.k
  k1 : v.k ≤ B
  cs0 : ∀ z ∈ v.cs, (10 : Int) ^ 18 ≤ z
theorem UV.ok.le {v : UV} {B B' : Int} (h : v.ok B) (l : B ≤ B') : v.ok B' := ⟨h.l0, h.m0, h.m1, h.k0, by have := h.k1; omega, h.cs0⟩
def urnS (S : Sto) (u c : Addr) (v : UV) : Sto := put (put S c (.lst (v.cs.map .int))) u (.lst [.loc c, .int v.l, .int v.m, .int v.k, .bl false, .int 30])
section
variable {S S' : Sto} {u c p : Addr} {v : UV} {o : O}
theorem urnS_u : urnS S u c v u = some (.lst [.loc c, .int v.l, .int v.m, .int v.k, .bl false, .int 30]) := put_same
theorem urnS_c (h : u ≠ c) : urnS S u c v c = some (.lst (v.cs.map .int)) := by unfold urnS; rw [put_ne h.symm, put_same]
theorem urnS_ne (h1 : p ≠ u) (h2 : p ≠ c) : urnS S u c v p = S p := by unfold urnS; rw [put_ne h1, put_ne h2]
theorem urnS_pu (h : u ≠ c) (hp : urnS S u c v p = none) : p ≠ u := (ne_st urnS_u hp).symm
theorem urnS_pc (h : u ≠ c) (hp : urnS S u c v p = none) : p ≠ c := (ne_st (urnS_c h) hp).symm
theorem urnS_none (h : u ≠ c) (hp : urnS S u c v p = none) : S p = none := by rw [urnS_ne (urnS_pu h hp) (urnS_pc h hp)] at hp; exact hp
theorem put_urn (h1 : p ≠ u) (h2 : p ≠ c) : put (urnS S u c v) p o = urnS (put S p o) u c v := by
  unfold urnS; rw [put_comm h1.symm, put_comm h2.symm]
theorem urn_sub (h : Sub S S') : Sub (urnS S u c v) (urnS S' u c v) := Sub.putO (Sub.putO h)
theorem urn_new (h : u ≠ c) (hp : urnS S u c v p = none) : Sub (urnS S u c v) (urnS (put S p o) u c v) := urn_sub (Sub.newO Sub.refl (urnS_none h hp))
end
theorem dps_ints {S : Sto} : ∀ (cs : List Int), DPs S (cs.map D.int) (cs.map PyData.int)
  | [] => .nil
  | _ :: r => .cons (.int _) (dps_ints r)
theorem lay_ints : ∀ (cs : List Int), PyData.canLayAll0 (cs.map PyData.int) = true ∧ PyData.depthAll (cs.map PyData.int) = 0
  | [] => ⟨rfl, rfl⟩
  | _ :: r => by
    have := lay_ints r
    simp [PyData.canLayAll0, PyData.canLay0, PyData.depthAll, PyData.depth, this]
theorem ne_nil {S : Sto} {c p : Addr} {cs : List Int} {P : Bool → Prop} (h1 : S c = some (.lst (cs.map .int))) (h2 : S p = some (.lst [])) (t : cs ≠ [] → P true) (f : cs = [] → P false) : cop .ne (.loc c) (.loc p) S P := by
  refine ⟨.list (cs.map .int), .list [], .lst h1 (dps_ints cs), .lst h2 .nil, ?_, ?_, ?_⟩
  · have := lay_ints cs
    simp [SeqAt.shaped, PyData.canLay0, PyData.depth, this]
  · simp [SeqAt.shaped, PyData.canLay0, PyData.canLayAll0, PyData.depth, PyData.depthAll]
  · cases cs with
    | nil => simp [PyData.eqv, PyData.eqvAll]; exact f rfl
    | cons a r => simp [PyData.eqv, PyData.eqvAll]; exact t (by simp)
theorem eq_nil {S : Sto} {c p : Addr} {ds : List D} {ps : List PyData} {P : Bool → Prop} (h1 : S c = some (.lst ds)) (hd : DPs S ds ps) (hs : SeqAt.shaped (.list ps) = true) (h2 : S p = some (.lst [])) (t : ds = [] → P true) (f : ds ≠ [] → P false) : cop .eq (.loc c) (.loc p) S P := by
  refine ⟨.list ps, .list [], .lst h1 hd, .lst h2 .nil, hs, ?_, ?_⟩
  · simp [SeqAt.shaped, PyData.canLay0, PyData.canLayAll0, PyData.depth, PyData.depthAll]
  · cases hd with
    | nil => simp [PyData.eqv, PyData.eqvAll]; exact t rfl
    | cons a r => simp [PyData.eqv, PyData.eqvAll]; exact f (by simp)
theorem urn_l {S : Sto} {u c : Addr} {v : UV} {l : Int} : put (urnS S u c v) u (.lst [.loc c, .int l, .int v.m, .int v.k, .bl false, .int 30]) = urnS S u c { v with l := l } := put_put
theorem urn_m {S : Sto} {u c : Addr} {v : UV} {m : Int} : put (urnS S u c v) u (.lst [.loc c, .int v.l, .int m, .int v.k, .bl false, .int 30]) = urnS S u c { v with m := m } := put_put
theorem urn_k {S : Sto} {u c : Addr} {v : UV} {k : Int} : put (urnS S u c v) u (.lst [.loc c, .int v.l, .int v.m, .int k, .bl false, .int 30]) = urnS S u c { v with k := k } := put_put
theorem urn_cs {S : Sto} {u c : Addr} {v : UV} {cs : List Int} (h : u ≠ c) : put (urnS S u c v) c (.lst (cs.map .int)) = urnS S u c { v with cs := cs } := by
  unfold urnS; rw [put_comm h, put_put]
section
variable {S : Sto} {u c : Addr} {v : UV} {z : Int} {N : Env' → Sto → Prop} {δ : Env'}
theorem urn_at1 (q : N δ (urnS S u c { v with l := z })) : ∃ xs j, urnS S u c v u = some (.lst xs) ∧ ixN xs.length 1 = some j ∧ N δ (put (urnS S u c v) u (.lst (xs.set j (.int z)))) := by
  rw [← urn_l] at q; exact ⟨_, 1, urnS_u, rfl, q⟩
theorem urn_at2 (q : N δ (urnS S u c { v with m := z })) : ∃ xs j, urnS S u c v u = some (.lst xs) ∧ ixN xs.length 2 = some j ∧ N δ (put (urnS S u c v) u (.lst (xs.set j (.int z)))) := by
  rw [← urn_m] at q; exact ⟨_, 2, urnS_u, rfl, q⟩
theorem urn_at3 (q : N δ (urnS S u c { v with k := z })) : ∃ xs j, urnS S u c v u = some (.lst xs) ∧ ixN xs.length 3 = some j ∧ N δ (put (urnS S u c v) u (.lst (xs.set j (.int z)))) := by
  rw [← urn_k] at q; exact ⟨_, 3, urnS_u, rfl, q⟩
end
def ball_tail : IB := match b__law_ball with
  | .cons _ r => r
  | .nil => .nil
theorem ball_end {W : Wd} {n : Nat} {E : DXS} {S S0 : Sto} {u c : Addr} {v : UV} {many B : Int} {Q : DK} {o : Option D} (hu : u ≠ c) (hm : 0 < many) (hm2 : many < 1073741824) (hv : v.ok B) (hB : B < 1000000000) (hs : Sub S S0)
   (q : ∀ r v', 0 ≤ r → r < many → UV.ok v' (B + 1) → Q (.int r) (urnS S u c v')) : dB (W.gm (dcall W n)) E ball_tail (ends Q) [some (.loc u), some (.int many), o] (urnS S0 u c v) := by
  unfold ball_tail b__law_ball
  have fm : ∀ (i j : Int), 0 < j → 0 ≤ i.fmod j ∧ i.fmod j < j := fun i j h => ⟨Int.fmod_nonneg_of_pos _ h, Int.fmod_lt_of_pos _ h⟩
  walk_at "es"
  refine i_lst urnS_u rfl ?_
  walk_at "es"
  refine o_gt (fun g => ?_) fun g => ?_
  · walk_at "es"
    refine i_lst urnS_u rfl ?_
    walk_at "es"
    refine p_mod (by omega) ?_
    walk_at "es"
    refine i_lst urnS_u rfl ?_
    walk_at "es"
    refine p_div ⟨by omega, by omega⟩ ?_
    walk_at "es"
    refine urn_at1 ?_
    walk_at "es"
    refine ⟨_, urn_sub hs, q (v.l.fmod many) { v with l := v.l.fdiv many } (fm _ _ hm).1 (fm _ _ hm).2 ⟨?_, hv.m0, hv.m1, hv.k0, by have := hv.k1; show v.k ≤ B + 1; omega, hv.cs0⟩⟩
    exact Int.fdiv_nonneg hv.l0 (by omega)
  · walk_at "es"
    refine i_lst urnS_u rfl ?_
    walk_at "es"
    refine urn_at3 ?_
    have h0 := hv.k0
    have h1 := hv.k1
    have h2 := hv.m0
    have h3 := hv.m1
    walk_at "es"
    refine i_lst urnS_u rfl ?_
    walk_at "es"
    refine p_mul (.inl ⟨by omega, by omega⟩) ?_
    walk_at "es"
    refine i_lst urnS_u rfl ?_
    walk_at "es"
    refine i_lst urnS_u rfl ?_
    walk_at "es"
    refine p_mul (.inl ⟨by omega, by omega⟩) ?_
    walk_at "es"
    refine p_mul (.inr ⟨by omega, by omega⟩) ?_
    walk_at "es"
    refine p_mod (by decide) ?_
    walk_at "es"
    refine urn_at2 ?_
    walk_at "es"
    generalize hM : (v.m * 69621 + (v.k + 1) * (v.k + 1) * 40014 + 91).fmod 2147483563 = M
    have hM1 := fm (v.m * 69621 + (v.k + 1) * (v.k + 1) * 40014 + 91) 2147483563 (by decide)
    rw [hM] at hM1
    refine i_lst urnS_u rfl ?_
    walk_at "es"
    refine i_lst urnS_u rfl ?_
    walk_at "es"
    refine p_div ⟨by omega, by omega⟩ ?_
    walk_at "es"
    refine p_mul (.inl ⟨by omega, by omega⟩) ?_
    walk_at "es"
    refine p_mod (by decide) ?_
    walk_at "es"
    refine p_div ⟨by decide, by decide⟩ ?_
    walk_at "es"
    refine p_mod (by omega) ?_
    exact ⟨_, urn_sub hs, q _ { v with k := v.k + 1, m := M } (fm _ _ hm).1 (fm _ _ hm).2 ⟨hv.l0, hM1.1, by show M < _; omega, by show 0 ≤ v.k + 1; omega, by show v.k + 1 ≤ B + 1; omega, hv.cs0⟩⟩
theorem c_ball {W : Wd} (h : H__law_ball W) {n : Nat} (hn : 1 ≤ n) {S : Sto} {u c : Addr} {v : UV} {many B : Int} {Q : DK} {E : DX} (hu : u ≠ c) (hm : 0 < many) (hm2 : many < 1073741824) (hv : v.ok B) (hB : B < 1000000000)
   (q : ∀ r v', 0 ≤ r → r < many → UV.ok v' (B + 1) → Q (.int r) (urnS S u c v')) : dcall W n 21 [.loc u, .int many] (urnS S u c v) Q E := by
  obtain ⟨n, rfl, hn⟩ := pred hn
  refine call_of h.f__law_ball rfl rfl ?_
  unfold b__law_ball
  walk_at "in"
  walk_at "es"
  refine i_lst urnS_u rfl ?_
  walk_at "es"
  refine o_eqi (fun g1 => ?_) fun g1 => ?_
  · walk_at "es"
    refine i_lst urnS_u rfl ?_
    walk_at "es"
    refine ⟨by decide, fun p hp => ?_⟩
    have n1 := urnS_pu hu hp
    have n2 := urnS_pc hu hp
    rw [put_urn n1 n2]
    have hS := urnS_none hu hp
    refine ne_nil (urnS_c hu) (by rw [urnS_ne n1 n2]; exact put_same) (fun g2 => ?_) fun g2 => ?_
    · walk_at "es"
      refine i_lst urnS_u rfl ?_
      obtain ⟨z, r, e⟩ := List.exists_cons_of_ne_nil g2
      have ec : urnS (put S p (.lst [])) u c v c = some (.lst (.int z :: r.map .int)) := by rw [urnS_c hu, e]; rfl
      refine ⟨⟨_, ec⟩, ?_⟩
      walk_at "es"
      refine m_pop0 ec ?_
      rw [urn_cs hu]
      walk_at "es"
      refine p_pow ⟨by decide, by decide, by decide⟩ ?_
      walk_at "es"
      refine urn_at1 ?_
      refine ball_end hu hm hm2 ⟨?_, hv.m0, hv.m1, hv.k0, hv.k1, fun y hy => hv.cs0 y (by rw [e]; exact List.mem_cons_of_mem _ hy)⟩ hB (Sub.newO Sub.refl hS) q
      have := hv.cs0 z (by rw [e]; exact List.mem_cons_self ..)
      show 0 ≤ z - 10 ^ Int.toNat 18
      have e18 : (10 : Int) ^ Int.toNat 18 = 10 ^ 18 := rfl
      rw [e18]
      omega
    · walk_at "es"
      exact ball_end hu hm hm2 hv hB (Sub.newO Sub.refl hS) q
  · walk_at "es"
    exact ball_end hu hm hm2 hv hB Sub.refl q
theorem cut_ints (ns : List Int) (lo hi : Option Int) : ∃ ms : List Int, cutD (ns.map D.int) lo hi = ms.map D.int ∧ ms.length ≤ ns.length := by
  refine ⟨(ns.drop (HT.sIx ns.length 0 lo)).take (HT.sIx ns.length ns.length hi - HT.sIx ns.length 0 lo), ?_, ?_⟩
  · simp [cutD, List.map_drop, List.map_take]
  · simp; omega
def bigF : D → Bool
  | .int z => decide ((10 : Int) ^ 18 ≤ z)
  | _ => false
theorem big_ints : ∀ (ns : List Int), (ns.map D.int).filter bigF = (ns.filter fun z => decide ((10 : Int) ^ 18 ≤ z)).map D.int
  | [] => rfl
  | z :: r => by
    rw [List.map_cons, List.filter_cons, List.filter_cons, big_ints r]
    show (if decide ((10 : Int) ^ 18 ≤ z) = true then _ else _) = _
    split <;> rfl
theorem c_urn {W : Wd} (h : H__law_urn W) {n : Nat} (hn : 1 ≤ n) {S : Sto} {ns : List Int} {Q : DK} {E : DX} (hl : ns.length ≤ 1000000)
   (q : ∀ u c v, u ≠ c → S u = none → S c = none → UV.ok v 0 → Q (.loc u) (urnS S u c v)) : dcall W n 20 [.rl (ns.map .int)] S Q E := by
  obtain ⟨n, rfl, hn⟩ := pred hn
  refine call_of h.f__law_urn rfl rfl ?_
  unfold b__law_urn
  have fm : ∀ (i j : Int), 0 < j → 0 ≤ i.fmod j ∧ i.fmod j < j := fun i j h => ⟨Int.fmod_nonneg_of_pos _ h, Int.fmod_lt_of_pos _ h⟩
  obtain ⟨ms, em, hms⟩ := cut_ints ns none (some 63)
  walk_at "in"
  walk_at "es"
  intro p hp
  rw [em]
  refine s_lst put_same ?_
  refine forL_inv (fun r δ S' => S' = put S p (.lst (ms.map D.int)) ∧ (∃ o m, δ = [some (.rl (ns.map .int)), some (.int m), o] ∧ 0 ≤ m ∧ m < 2147483647) ∧ ∃ ks : List Int, r = ks.map .int) (fun r δ S' i => by rw [i.1]; exact put_same) ?_ ?_ _ _ _ ⟨rfl, ⟨_, _, rfl, by decide, by decide⟩, ⟨ms, rfl⟩⟩
  · rintro x r δ S' ⟨rfl, ⟨o, m, rfl, m0, m1⟩, ks, ek⟩ k hk
    cases ks with
    | nil => cases ek
    | cons z ks =>
      obtain ⟨rfl, er⟩ := List.cons.inj ek
      walk_at "es"
      refine p_mul (.inl ⟨by omega, by omega⟩) ?_
      walk_at "es"
      refine p_mod (by decide) ?_
      walk_at "es"
      refine p_mod (by decide) ?_
      walk_at "es"
      refine hk _ _ _ Sub.refl ⟨rfl, ⟨_, _, rfl, (fm _ _ (by decide)).1, (fm _ _ (by decide)).2⟩, ks, er⟩
  · rintro δ S' ⟨rfl, ⟨o, m, rfl, m0, m1⟩, ks, ek⟩
    walk_at "es"
    intro p2 hp2
    rw [em]
    refine s_lst put_same ?_
    intro c hc
    have ncp : c ≠ p2 := (ne_st put_same hc).symm
    refine lc_filter bigF (fun acc => by rw [put_ne ncp.symm]; exact put_same) (by rw [List.length_map]; have : sizeLine = 16777216 := rfl; omega) (fun d hd acc k hl hk => ?_) ?_
    · obtain ⟨z, hz, rfl⟩ := List.mem_map.mp hd
      walk_at "es"
      refine p_pow ⟨by decide, by decide, by decide⟩ ?_
      refine o_ge (fun g => ?_) fun g => ?_
      · walk_at "es"
        refine ⟨acc, put_same, hl, ?_⟩
        rw [put_put]
        have e : bigF (.int z) = true := decide_eq_true g
        rw [e] at hk
        exact hk
      · have e : bigF (.int z) = false := decide_eq_false (by have : (10 : Int) ^ Int.toNat 18 = 10 ^ 18 := rfl; omega)
        rw [e] at hk
        simpa using hk
    · walk_at "es"
      refine ⟨by show 6 ≤ sizeLine; decide, fun u hu => ?_⟩
      have nuc : u ≠ c := (ne_st put_same hu).symm
      have hS1 : Sub S (put (put S p (.lst (ms.map D.int))) p2 (.lst (ms.map D.int))) := Sub.newO (Sub.newO Sub.refl hp) ((Sub.newO Sub.refl hp).noneO hp2)
      have hSc := hS1.noneO hc
      refine ⟨_, ?_, q u c ⟨0, m, 0, ms.filter fun z => decide ((10 : Int) ^ 18 ≤ z)⟩ nuc ((hS1.newO hSc).noneO hu) hSc ⟨Int.le_refl 0, m0, m1, Int.le_refl 0, Int.le_refl 0, fun z hz => by have := (List.mem_filter.mp hz).2; exact of_decide_eq_true this⟩⟩
      unfold urnS
      rw [big_ints]
      exact Sub.putO (Sub.putO hS1)
theorem c_same_bl {W : Wd} (h : H__law_same W) {n : Nat} (hn : 1 ≤ n) {S : Sto} {a b : Bool} {Q : DK} {E : DX} (t : a = b → Q (.bl true) S) (f : a ≠ b → Q (.bl false) S) : dcall W n 22 [.bl a, .bl b] S Q E := by
  obtain ⟨n, rfl, hn⟩ := pred hn
  refine call_of h.f__law_same rfl rfl ?_
  unfold b__law_same
  walk_at "in"
  walk_at "es"
  refine k_tup .bl (fun z e => by cases e) fun _ => ?_
  walk_at "es"
  refine isN_no rfl ?_
  walk_at "es"
  refine k_bool .bl (fun z e => ?_) fun e => by cases e
  walk_at "es"
  refine isN_no rfl ?_
  walk_at "es"
  refine k_bool .bl (fun z e => ?_) fun e => by cases e
  walk_at "es"
  refine o_eqb (fun g => ⟨_, Sub.refl, t g⟩) fun g => ⟨_, Sub.refl, f g⟩
abbrev LRG : Str := "ABCDEFGHIJKLMNOPQRSTUVWXYZ"
def alnF (x : D) : Bool := match x with
  | .str z => !decide (hd0 z ∈ (SML ++ LRG ++ DIG : Str).cps.toList)
  | _ => false
/-- the law's own reading of a text -/
def sortS (z : Str) : Str :=
  if 1 ≤ z.length ∧ z.length ≤ 10 then
    if (z.cps.toList.map fun c => D.str ⟨#[c]⟩).filter alnF = [] then
      if hd0 z ∈ DIG.cps.toList then "" else
      if hd0 z ∈ SML.cps.toList then (if inD (.str z) WRD then "" else "low") else
      if L2.cutS z none (some 2) = "Fn" then "high" else "free"
    else ""
  else ""
def sortD : D → Str
  | .str z => sortS z
  | _ => ""
def ascii (z : Str) : Prop := z.length ≤ 200 ∧ ∀ c ∈ z.cps.toList, c < 128
theorem dps_chars {S : Sto} (F : D → Bool) : ∀ (cs : List Nat), (∀ c ∈ cs, c < 128) → ∃ ps, DPs S ((cs.map fun c => D.str ⟨#[c]⟩).filter F) ps ∧ PyData.canLayAll0 ps = true ∧ PyData.depthAll ps = 0
  | [], _ => ⟨[], .nil, rfl, rfl⟩
  | c :: r, h => by
    obtain ⟨ps, h1, h2, h3⟩ := dps_chars F r fun x hx => h x (List.mem_cons_of_mem _ hx)
    rw [List.map_cons, List.filter_cons]
    split
    · refine ⟨.str ⟨#[c]⟩ :: ps, .cons (.str _) h1, ?_, ?_⟩
      · have : c < 1114112 := by have := h c (List.mem_cons_self ..); omega
        simp [PyData.canLayAll0, PyData.canLay0, PyData.strOk, h2, this]
      · simp [PyData.depthAll, PyData.depth, h3]
    · exact ⟨ps, h1, h2, h3⟩
theorem c_sort {W : Wd} (h : H__law_sort W) {n : Nat} (hn : 1 ≤ n) {S : Sto} {d : D} {Q : DK} {E : DX} (w : Ty S d) (ha : ∀ z, d = .str z → ascii z) (q : Q (.str (sortD d)) S) : dcall W n 23 [d] S Q E := by
  obtain ⟨n, rfl, hn⟩ := pred hn
  refine call_of h.f__law_sort rfl rfl ?_
  unfold b__law_sort
  walk_at "in"
  walk_at "es"
  refine ⟨by simp [sizeLine], ?_⟩
  walk_at "es"
  refine ⟨rfl, ?_⟩
  walk_at "es"
  refine k_str w (fun z e => ?_) fun e => ?_
  · subst e
    obtain ⟨a1, a2⟩ := ha z rfl
    have hz : z.length ≤ sizeLine := by have : sizeLine = 16777216 := rfl; omega
    walk_at "es"
    refine b_lenS hz ?_
    refine o_le (fun h1 => ?_) fun h1 => ?_
    · walk_at "es"
      refine o_le (fun h2 => ?_) fun h2 => ?_
      · walk_at "es"
        intro p hp
        refine lc_filter alnF (fun _ => trivial) (by rw [List.length_map, ← len_str]; exact hz) (fun d hd acc k hl hk => ?_) ?_
        · obtain ⟨c, hc, rfl⟩ := List.mem_map.mp hd
          walk_at "es"
          refine p_adds (by decide +kernel) ?_
          walk_at "es"
          refine p_adds (by decide +kernel) ?_
          refine o_nic (fun g => ?_) fun g => ?_
          · walk_at "es"
            refine ⟨acc, put_same, hl, ?_⟩
            rw [put_put]
            have e : alnF (.str ⟨#[c]⟩) = true := by simp only [alnF, hd0]; simpa using g
            rw [e] at hk
            exact hk
          · have e : alnF (.str ⟨#[c]⟩) = false := by simp only [alnF, hd0]; simpa using g
            rw [e] at hk
            simpa using hk
        · walk_at "es"
          refine ⟨by decide, fun p2 hp2 => ?_⟩
          have np : p2 ≠ p := (ne_st put_same hp2).symm
          obtain ⟨ps, d1, d2, d3⟩ := dps_chars (S := put (put S p (.lst ((z.cps.toList.map fun c => D.str ⟨#[c]⟩).filter alnF))) p2 (.lst [])) alnF z.cps.toList a2
          have hss : Sub S (put (put S p (.lst ((z.cps.toList.map fun c => D.str ⟨#[c]⟩).filter alnF))) p2 (.lst [])) := Sub.newO (Sub.newO Sub.refl hp) ((Sub.newO Sub.refl hp).noneO hp2)
          have s1 : 1 ≤ z.length ∧ z.length ≤ 10 := by omega
          refine ne_nilD (by rw [put_ne np.symm]; exact put_same) d1 (by simp [SeqAt.shaped, PyData.canLay0, PyData.depth, d2, d3]) put_same (fun g1 => ?_) fun g1 => ?_
          · walk_at "es"
            refine ⟨_, hss, ?_⟩
            have e : sortD (.str z) = "" := by show sortS z = _; unfold sortS; rw [if_pos s1, if_neg g1]
            rw [← e]; exact q
          · walk_at "es"
            refine i_str hz (at0 (by omega)) ?_
            walk_at "es"
            refine o_inc (fun g2 => ?_) fun g2 => ?_
            · walk_at "es"
              refine ⟨_, hss, ?_⟩
              have e : sortD (.str z) = "" := by show sortS z = _; unfold sortS; rw [if_pos s1, if_pos g1, if_pos g2]
              rw [← e]; exact q
            · walk_at "es"
              refine i_str hz (at0 (by omega)) ?_
              walk_at "es"
              refine o_inc (fun g3 => ?_) fun g3 => ?_
              · walk_at "es"
                refine ⟨by decide, fun p3 hp3 => ?_⟩
                refine o_inL put_same rfl rfl (fun g4 => ?_) fun g4 => ?_
                · walk_at "es"
                  refine ⟨_, Sub.newO hss (hss.noneO hp3), ?_⟩
                  have e : sortD (.str z) = "" := by show sortS z = _; unfold sortS; rw [if_pos s1, if_pos g1, if_neg g2, if_pos g3, if_pos g4]
                  rw [← e]; exact q
                · walk_at "es"
                  refine ⟨_, Sub.newO hss (hss.noneO hp3), ?_⟩
                  have e : sortD (.str z) = "low" := by show sortS z = _; unfold sortS; rw [if_pos s1, if_pos g1, if_neg g2, if_pos g3, if_neg (by rw [show inD (.str z) WRD = false from g4]; decide)]
                  rw [← e]; exact q
              · walk_at "es"
                refine ⟨hz, ?_⟩
                walk_at "es"
                refine o_eqs (fun g4 => ?_) fun g4 => ?_
                · walk_at "es"
                  refine ⟨_, hss, ?_⟩
                  have e : sortD (.str z) = "high" := by show sortS z = _; unfold sortS; rw [if_pos s1, if_pos g1, if_neg g2, if_neg g3, if_pos g4]
                  rw [← e]; exact q
                · walk_at "es"
                  refine ⟨_, hss, ?_⟩
                  have e : sortD (.str z) = "free" := by show sortS z = _; unfold sortS; rw [if_pos s1, if_pos g1, if_neg g2, if_neg g3, if_neg g4]
                  rw [← e]; exact q
      · walk_at "es"
        refine ⟨_, Sub.refl, ?_⟩
        have e : sortD (.str z) = "" := if_neg (by omega)
        rw [← e]; exact q
    · walk_at "es"
      refine ⟨_, Sub.refl, ?_⟩
      have e : sortD (.str z) = "" := if_neg (by omega)
      rw [← e]; exact q
  · walk_at "es"
    refine ⟨_, Sub.refl, ?_⟩
    have e : sortD d = "" := by cases d <;> first | rfl | cases e
    rw [← e]; exact q
def signs : List D := [.str "abcdefghijklmnopqrstuvwxyz", .str "ABCDEFGHIJKLMNOPQRSTUVWXYZ", .str "0123456789", .str "_-. +*<>()[]{}:;,=?!"]
theorem ascii_app {a b : Str} {k : Nat} (h1 : a.length ≤ k) (h2 : ∀ c ∈ a.cps.toList, c < 128) (g1 : b.length = 1) (g2 : ∀ c ∈ b.cps.toList, c < 128) : (a ++ b).length ≤ k + 1 ∧ ∀ c ∈ (a ++ b).cps.toList, c < 128 := by
  have e : (a ++ b).cps.toList = a.cps.toList ++ b.cps.toList := by
    show (a.cps ++ b.cps).toList = _
    simp
  rw [len_str, e, List.length_append, ← len_str, ← len_str]
  refine ⟨by omega, fun c hc => ?_⟩
  rcases List.mem_append.mp hc with h | h
  · exact h2 c h
  · exact g2 c h
theorem atR {xs : List D} {r : Int} (h0 : 0 ≤ r) (h1 : r < xs.length) (hl : xs.length < 2 ^ 62) : ∃ d, atI xs r = some d ∧ d ∈ xs := by
  obtain ⟨i, rfl⟩ := Int.eq_ofNat_of_zero_le h0
  have hi : i < xs.length := by omega
  exact ⟨xs[i], atI_nat (List.getElem?_eq_getElem hi) hl, List.getElem_mem hi⟩
theorem atC {z : Str} {r : Int} (h0 : 0 ≤ r) (h1 : r < z.length) (hl : z.length < 2 ^ 62) : ∃ c, atI z.cps.toList r = some c ∧ c ∈ z.cps.toList := by
  obtain ⟨i, rfl⟩ := Int.eq_ofNat_of_zero_le h0
  rw [len_str] at h1 hl
  have hi : i < z.cps.toList.length := by omega
  exact ⟨z.cps.toList[i], atI_nat (List.getElem?_eq_getElem hi) hl, List.getElem_mem hi⟩
def asciiB (z : Str) : Bool := decide (z.length ≤ 40) && z.cps.toList.all (· < 128)
theorem asciiB_ok {z : Str} (h : asciiB z = true) : z.length ≤ 40 ∧ ∀ c ∈ z.cps.toList, c < 128 := by
  unfold asciiB at h
  obtain ⟨h1, h2⟩ := Bool.and_eq_true_iff.mp h
  exact ⟨of_decide_eq_true h1, fun c hc => of_decide_eq_true (List.all_eq_true.mp h2 c hc)⟩
theorem c_string {W : Wd} (h : H__law_string W) {n : Nat} (hn : 2 ≤ n) {S : Sto} {u c : Addr} {v : UV} {B : Int} {Q : DK} {E : DX} (hu : u ≠ c) (hv : v.ok B) (hB : B < 900000000)
   (q : ∀ z v', ascii z → UV.ok v' (B + 100) → Q (.str z) (urnS S u c v')) : dcall W n 24 [.loc u] (urnS S u c v) Q E := by
  obtain ⟨n, rfl, hn⟩ := pred hn
  refine call_of h.f__law_string rfl rfl ?_
  unfold b__law_string
  walk_at "in"
  walk_at "es"
  refine c_ball h.h__law_ball (by omega) hu (by decide) (by decide) hv (by omega) fun r1 v1 r0 r6 hv1 => ?_
  walk_at "es"
  refine o_eqi (fun g => ?_) fun g => ?_
  · walk_at "es"
    refine ⟨trivial, ?_⟩
    walk_at "es"
    refine ⟨by decide +kernel, by decide +kernel, fun p hp => ?_⟩
    have n1 := urnS_pu hu hp
    have n2 := urnS_pc hu hp
    rw [put_urn n1 n2]
    have hS := urnS_none hu hp
    have hw : (Txt.split "def else fn give if kind let match whole Fn Fn0 Fnx FN fN F f W Whole defs de _ x_ x-y X.Y 0 7a a7 A0" " ").all asciiB = true ∧ 0 < (Txt.split "def else fn give if kind let match whole Fn Fn0 Fnx FN fN F f W Whole defs de _ x_ x-y X.Y 0 7a a7 A0" " ").length ∧ (Txt.split "def else fn give if kind let match whole Fn Fn0 Fnx FN fN F f W Whole defs de _ x_ x-y X.Y 0 7a a7 A0" " ").length < 100 := by decide +kernel
    generalize hws : Txt.split "def else fn give if kind let match whole Fn Fn0 Fnx FN fN F f W Whole defs de _ x_ x-y X.Y 0 7a a7 A0" " " = ws at hw ⊢
    obtain ⟨w1, w2, w3⟩ := hw
    walk_at "es"
    refine b_lenL (by rw [urnS_ne n1 n2]; exact put_same) ?_
    walk_at "es"
    rw [List.length_map]
    refine c_ball h.h__law_ball (by omega) hu (by omega) (by omega) hv1 (by omega) fun r2 v2 r20 r21 hv2 => ?_
    obtain ⟨d, e1, e2⟩ := atR (xs := ws.map D.str) r20 (by simpa using r21) (by simp; omega)
    obtain ⟨w, hw, rfl⟩ := List.mem_map.mp e2
    refine i_lst (by rw [urnS_ne n1 n2]; exact put_same) e1 ?_
    obtain ⟨a1, a2⟩ := asciiB_ok (List.all_eq_true.mp w1 w hw)
    exact ⟨_, urn_sub (Sub.newO Sub.refl hS), q w v2 ⟨by omega, a2⟩ (hv2.le (by omega))⟩
  · walk_at "es"
    refine ⟨by show 4 ≤ sizeLine; decide, fun p hp => ?_⟩
    have n1 := urnS_pu hu hp
    have n2 := urnS_pc hu hp
    rw [put_urn n1 n2]
    have hS := urnS_none hu hp
    walk_at "es"
    refine ⟨by show 5 ≤ sizeLine; decide, fun p2 hp2 => ?_⟩
    have n3 := urnS_pu hu hp2
    have n4 := urnS_pc hu hp2
    rw [put_urn n3 n4]
    have hS2 := urnS_none hu hp2
    have np : p2 ≠ p := (ne_st put_same hS2).symm
    walk_at "es"
    refine b_max2 ?_
    obtain ⟨d, e1, e2⟩ := atR (xs := [.str "", .str "Fn", .str "F", .str "whole", .str "fn"]) (r := if r1 - 1 > 0 then r1 - 1 else 0) (by split <;> omega) (by split <;> simp <;> omega) (by simp)
    refine i_lst (by rw [urnS_ne n3 n4]; exact put_same) e1 ?_
    have ed : ∃ t : Str, d = .str t ∧ t.length ≤ 5 ∧ ∀ c ∈ t.cps.toList, c < 128 := by
      simp only [List.mem_cons, List.not_mem_nil, or_false] at e2
      rcases e2 with rfl | rfl | rfl | rfl | rfl <;> exact ⟨_, rfl, by decide +kernel, by decide +kernel⟩
    obtain ⟨t, rfl, t1, t2⟩ := ed
    walk_at "es"
    refine c_ball h.h__law_ball (by omega) hu (by decide) (by decide) hv1 (by omega) fun r2 v2 r20 r21 hv2 => ?_
    walk_at "es"
    refine c_ball h.h__law_ball (by omega) hu (by decide) (by decide) hv2 (by omega) fun r3 v3 r30 r31 hv3 => ?_
    walk_at "es"
    refine ⟨by show 2 ≤ sizeLine; decide, fun p3 hp3 => ?_⟩
    have n5 := urnS_pu hu hp3
    have n6 := urnS_pc hu hp3
    rw [put_urn n5 n6]
    have hS3 := urnS_none hu hp3
    walk_at "es"
    refine c_ball h.h__law_ball (by omega) hu (by decide) (by decide) hv3 (by omega) fun r4 v4 r40 r41 hv4 => ?_
    obtain ⟨d, e3, e4⟩ := atR (xs := [.int (1 + r2), .int r3]) (r := r4) r40 (by simpa using r41) (by simp)
    refine i_lst (by rw [urnS_ne n5 n6]; exact put_same) e3 ?_
    have ed : ∃ j : Int, d = .int j ∧ 0 ≤ j ∧ j ≤ 13 := by
      simp only [List.mem_cons, List.not_mem_nil, or_false] at e4
      rcases e4 with rfl | rfl <;> exact ⟨_, rfl, by omega, by omega⟩
    obtain ⟨j, rfl, j1, j2⟩ := ed
    walk_at "es"
    refine ⟨by omega, by omega, ?_⟩
    generalize hS1 : put (put (put S p (.lst signs)) p2 (.lst [.str "", .str "Fn", .str "F", .str "whole", .str "fn"])) p3 (.lst [.int (1 + r2), .int r3]) = S1
    have eS1 : (put (put (put S p (.lst [.str "abcdefghijklmnopqrstuvwxyz", .str "ABCDEFGHIJKLMNOPQRSTUVWXYZ", .str "0123456789", .str "_-. +*<>()[]{}:;,=?!"])) p2 (.lst [.str "", .str "Fn", .str "F", .str "whole", .str "fn"])) p3 (.lst [.int (1 + r2), .int r3])) = S1 := hS1
    rw [eS1]
    have hsub : Sub S S1 := by rw [← hS1]; exact Sub.newO (Sub.newO (Sub.newO Sub.refl hS) ((Sub.newO Sub.refl hS).noneO hS2)) ((Sub.newO (Sub.newO Sub.refl hS) ((Sub.newO Sub.refl hS).noneO hS2)).noneO hS3)
    have np3 : p3 ≠ p := by
      intro e
      rw [e, put_ne np.symm, put_same] at hS3
      cases hS3
    have hsig : S1 p = some (.lst signs) := by rw [← hS1, put_ne np3.symm, put_ne np.symm, put_same]
    refine forL_inv (fun r δ S' => ∃ v t, S' = urnS S1 u c v ∧ (∃ o1 o2, δ = [some (.loc u), some (.int r1), some (.loc p), some (.str t), o1, o2]) ∧ t.length + r.length ≤ 20 ∧ (∀ c ∈ t.cps.toList, c < 128) ∧ UV.ok v (B + 40 - 2 * r.length) ∧ r.length ≤ 13) (fun _ _ _ _ => trivial) ?_ ?_ _ _ _ ⟨v4, t, rfl, ⟨_, _, rfl⟩, by simp [rangeD]; omega, t2, hv4.le (by simp [rangeD]; omega), by simp [rangeD]; omega⟩
    · rintro x r δ S' ⟨v, t, rfl, ⟨o1, o2, rfl⟩, l1, l2, l3, l4⟩ k hk
      simp only [List.length_cons] at l1 l3 l4
      walk_at "es"
      refine ⟨by show 9 ≤ sizeLine; decide, fun p4 hp4 => ?_⟩
      have n7 := urnS_pu hu hp4
      have n8 := urnS_pc hu hp4
      rw [put_urn n7 n8]
      have hS4 := urnS_none hu hp4
      have np4 : p4 ≠ p := (ne_st hsig hS4).symm
      walk_at "es"
      refine c_ball h.h__law_ball (by omega) hu (by decide) (by decide) l3 (by omega) fun r5 v5 r50 r51 hv5 => ?_
      obtain ⟨d, e5, e6⟩ := atR (xs := [.int 0, .int 0, .int 1, .int 1, .int 2, .int 2, .int 0, .int 1, .int 3]) (r := r5) r50 (by simpa using r51) (by simp)
      refine i_lst (by rw [urnS_ne n7 n8]; exact put_same) e5 ?_
      have ed : ∃ j : Int, d = .int j ∧ 0 ≤ j ∧ j ≤ 3 := by
        simp only [List.mem_cons, List.not_mem_nil, or_false] at e6
        rcases e6 with rfl | rfl | rfl | rfl | rfl | rfl | rfl | rfl | rfl <;> exact ⟨_, rfl, by omega, by omega⟩
      obtain ⟨j', rfl, j1', j2'⟩ := ed
      obtain ⟨d, e7, e8⟩ := atR (xs := signs) (r := j') j1' (by show j' < 4; omega) (by decide)
      refine i_lst (by rw [urnS_ne n1 n2, put_ne np4.symm]; exact hsig) e7 ?_
      have ed : ∃ g : Str, d = .str g ∧ 0 < g.length ∧ g.length ≤ 30 ∧ ∀ c ∈ g.cps.toList, c < 128 := by
        unfold signs at e8
        simp only [List.mem_cons, List.not_mem_nil, or_false] at e8
        rcases e8 with rfl | rfl | rfl | rfl <;> exact ⟨_, rfl, by decide +kernel, by decide +kernel, by decide +kernel⟩
      obtain ⟨g, rfl, g1, g2, g3⟩ := ed
      have z1 : sizeLine = 16777216 := rfl
      walk_at "es"
      refine b_lenS (by omega) ?_
      walk_at "es"
      refine c_ball h.h__law_ball (by omega) hu (by omega) (by omega) hv5 (by omega) fun r6 v6 r60 r61 hv6 => ?_
      obtain ⟨ch, e9, e10⟩ := atC (z := g) (r := r6) r60 (by omega) (by omega)
      refine i_str (by omega) e9 ?_
      have hg1 : (⟨#[ch]⟩ : Str).length = 1 := rfl
      have hap := ascii_app (a := t) (b := ⟨#[ch]⟩) (k := t.length) (Nat.le_refl _) l2 hg1 (by intro c hc; simp at hc; subst hc; exact g3 _ e10)
      refine p_adds (by rw [hg1]; omega) ?_
      walk_at "es"
      refine hk _ _ (urnS S1 u c v6) (urn_sub (Sub.newO Sub.refl hS4)) ⟨v6, t ++ ⟨#[ch]⟩, rfl, ⟨_, _, rfl⟩, by omega, hap.2, hv6.le (by omega), by omega⟩
    · rintro δ S' ⟨v, t, rfl, ⟨o1, o2, rfl⟩, l1, l2, l3, l4⟩
      walk_at "es"
      exact ⟨_, urn_sub hsub, q t v ⟨by omega, l2⟩ (l3.le (by omega))⟩
abbrev nD : D := .tup [.str "num", .int 1]
abbrev oneD : D := .tup [.str "give", nD]
abbrev freeT : D := .tup [.str "free"]
abbrev lowT : D := .tup [.str "low"]
abbrev bothT : D := .tup [.str "free", .str "high"]
def bods (w : D) : List D := [.tup [.tup [.str "let", w, nD, oneD], lowT], .tup [.tup [.str "give", .tup [.str "name", w]], lowT], .tup [.tup [.str "give", .tup [.str "fn", w, oneD]], lowT],
  .tup [.tup [.str "match", nD, .tup [.tup [.str "M", .tup [.str "x", w], oneD]]], lowT], .tup [.tup [.str "match", nD, .tup [.tup [w, .tup [], oneD]]], freeT], .tup [.tup [.str "give", .tup [.str "make", w, .tup [nD]]], freeT]]
def mkB : D → D
  | .tup [b, s] => .tup [.tup [], .tup [.tup [.str "f", .tup [], b]], s]
  | d => d
def base (w : D) : List D := [.tup [.tup [.tup [w, .tup [.tup [.str "M", .tup []]]]], .tup [], freeT], .tup [.tup [.tup [.str "K", .tup [.tup [w, .tup []]]]], .tup [], freeT],
  .tup [.tup [.tup [.str "K", .tup [.tup [.str "M", .tup [w]]]]], .tup [], bothT], .tup [.tup [.tup [.str "K", .tup [.tup [.str "M", .tup [.tup [.str "to", .str "whole", w]]]]]], .tup [], bothT],
  .tup [.tup [], .tup [.tup [w, .tup [], oneD]], lowT], .tup [.tup [], .tup [.tup [.str "f", .tup [.str "x", w], oneD]], lowT]]
def placedD (w : D) : List D := base w ++ (bods w).map mkB
theorem m_app {c : Addr} {d : D} {ds : List D} {S : Sto} {Q : DK} (h : S c = some (.lst ds)) (hl : ds.length < sizeLine) (q : Q .non (put S c (.lst (ds ++ [d])))) : mtO .append (.loc c) [d] S Q := ⟨ds, h, hl, q⟩
local macro_rules | `(tactic| walk_at "t") => `(tactic| repeat (first | walk_at "e" | (refine And.intro (a := List.length _ ≤ sizeLine) ?_ ?_; · (simp [sizeLine]; done)) | (refine And.intro (a := List.length _ = List.length _) rfl ?_)))
theorem put_put' {S : Sto} {a : Addr} {o o' : O} : put (put S a o) a o' = put S a o' := put_put
theorem l_add {a b : Addr} {xs ys : List D} {S : Sto} {Q : DK} (h1 : S a = some (.lst xs)) (h2 : S b = some (.lst ys)) (h3 : xs.length + ys.length ≤ sizeLine) (q : ∀ p, S p = none → Q (.loc p) (put S p (.lst (xs ++ ys)))) : bop .add (.loc a) (.loc b) S Q := ⟨xs, ys, h1, h2, h3, q⟩
theorem c_placed {W : Wd} (h : H__law_placed W) {n : Nat} (hn : 1 ≤ n) {S : Sto} {w : D} {Q : DK} {E : DX} (q : ∀ p, S p = none → Q (.loc p) (put S p (.lst (placedD w)))) : dcall W n 25 [w] S Q E := by
  obtain ⟨n, rfl, hn⟩ := pred hn
  refine call_of h.f__law_placed rfl rfl ?_
  unfold b__law_placed
  have z1 : sizeLine = 16777216 := rfl
  walk_at "in"
  walk_at "t"
  intro f hf
  walk_at "t"
  refine ⟨⟨_, put_same⟩, ?_⟩
  walk_at "t"
  refine m_app put_same (by simp [sizeLine]) ?_
  rw [put_put]
  walk_at "t"
  refine ⟨⟨_, put_same⟩, ?_⟩
  walk_at "t"
  refine m_app put_same (by simp [sizeLine]) ?_
  rw [put_put]
  generalize hS1 : put S f _ = S1
  have f1 : Sub S S1 := by rw [← hS1]; exact Sub.newO Sub.refl hf
  have f2 : S1 f = some (.lst ((base w).take 4)) := by rw [← hS1]; exact put_same
  clear hS1
  walk_at "t"
  intro b hb
  walk_at "t"
  intro b2 hb2
  have nb : b2 ≠ b := (ne_st put_same hb2).symm
  refine l_add (by rw [put_ne nb.symm]; exact put_same) put_same (by simp [sizeLine]) fun b3 hb3 => ?_
  have nb3 : b3 ≠ b2 := (ne_st put_same hb3).symm
  have hb3S : S b3 = none := (f1.trans (Sub.newO (Sub.newO Sub.refl hb) ((Sub.newO Sub.refl hb).noneO hb2))).noneO hb3
  generalize hS2 : put (put (put S1 b _) b2 _) b3 _ = S2
  have f3 : Sub S1 S2 := by rw [← hS2]; exact Sub.newO (Sub.newO (Sub.newO Sub.refl hb) ((Sub.newO Sub.refl hb).noneO hb2)) ((Sub.newO (Sub.newO Sub.refl hb) ((Sub.newO Sub.refl hb).noneO hb2)).noneO hb3)
  have f4 : S2 b3 = some (.lst ((bods w).take 5)) := by rw [← hS2]; exact put_same
  clear hS2
  walk_at "t"
  refine ⟨⟨_, f4⟩, ?_⟩
  walk_at "t"
  refine m_app f4 (by simp [sizeLine, bods]) ?_
  have f5 := f3 _ _ f2
  have nf : f ≠ b3 := ne_oo f5 f4 (by simp [base, bods])
  rw [show (bods w).take 5 ++ [D.tup [.tup [.str "give", .tup [.str "make", w, .tup [.tup [.str "num", .int 1]]]], .tup [.str "free"]]] = bods w from rfl]
  walk_at "t"
  intro g hg
  have ngb : g ≠ b3 := (ne_st put_same hg).symm
  have f6 : put S2 b3 (.lst (bods w)) f = some (.lst ((base w).take 4)) := by rw [put_ne nf]; exact f5
  have ngf : g ≠ f := (ne_st f6 hg).symm
  refine l_add (by rw [put_ne ngf.symm]; exact f6) put_same (by simp [sizeLine, base]) fun e he => ?_
  have neg : e ≠ g := (ne_st put_same he).symm
  have neb : e ≠ b3 := (ne_st (by rw [put_ne ngb.symm]; exact put_same) he).symm
  generalize hS3 : put (put S2 b3 (.lst (bods w))) g _ = S3 at he ⊢
  have f7 : S3 b3 = some (.lst (bods w)) := by rw [← hS3, put_ne ngb.symm]; exact put_same
  have he2 : S e = none := by
    have : S2 e = none := by rw [← hS3, put_ne neg, put_ne neb] at he; exact he
    exact (f1.trans f3).noneO this
  have f8 : Sub S S3 := by
    rw [← hS3]
    have h1 : Sub S (put S2 b3 (.lst (bods w))) := Sub.newO (f1.trans f3) hb3S
    exact Sub.newO h1 (h1.noneO hg)
  clear hS3
  walk_at "t"
  have neb3 : e ≠ b3 := neb
  refine s_lst (xs := bods w) (by rw [put_ne neb.symm]; exact f7) ?_
  refine forL_inv (fun r δ S' => ∃ acc, S' = put S3 e (.lst acc) ∧ acc ++ r.map mkB = placedD w ∧ (∃ o7 o8, δ = [some w, some oneD, some (.loc e), some (.loc b3), some nD, some freeT, some lowT, o7, o8]) ∧ ∀ x, x ∈ r → ∃ b s, x = .tup [b, s]) (fun r δ S' ⟨acc, h, _⟩ => by rw [h, put_ne neb.symm]; exact f7) ?_ ?_ _ _ _ ⟨base w, rfl, rfl, ⟨_, _, rfl⟩, ?_⟩
  · rintro x r δ S' ⟨acc, rfl, ha, ⟨o7, o8, rfl⟩, hx⟩ k hk
    obtain ⟨bb, ss, rfl⟩ := hx x (List.mem_cons_self ..)
    have hl : acc.length < sizeLine := by
      have := congrArg List.length ha
      simp [placedD, base, bods] at this
      omega
    walk_at "t"
    refine ⟨⟨_, put_same⟩, ?_⟩
    walk_at "t"
    refine m_app put_same hl ?_
    rw [put_put]
    walk_at "t"
    refine hk _ _ _ Sub.refl ⟨_, rfl, ?_, ⟨_, _, rfl⟩, fun x hx' => hx x (List.mem_cons_of_mem _ hx')⟩
    rw [List.append_assoc]
    exact ha
  · rintro δ S' ⟨acc, rfl, ha, ⟨o7, o8, rfl⟩, hx⟩
    walk_at "t"
    refine ⟨put S e (.lst acc), Sub.putO f8, ?_⟩
    have := q e he2
    rw [← ha] at this
    simpa using this
  · intro x hx
    simp only [bods, List.mem_cons, List.not_mem_nil, or_false] at hx
    rcases hx with rfl | rfl | rfl | rfl | rfl | rfl <;> exact ⟨_, _, rfl⟩
def wordOk (w : D) : Prop := (∃ z, w = .str z ∧ ascii z) ∨ w = .non ∨ w = .int 7 ∨ w = .bl true ∨ w = .tup [] ∨ w = .tup [.str "x"] ∨ ∃ p, w = .loc p
def owed (w : D) (ss : List D) : Bool := inD (.str (sortD w)) ss || (inD (.str "high") ss && isW "whole" w)
theorem wrd_small {z : Str} (h : inD (.str z) WRD = true) : hd0 z ∈ SML.cps.toList := by
  simp only [inD, List.any_cons, List.any_nil, Bool.or_eq_true, Bool.or_false, eqD, beq_iff_eq] at h
  rcases h with h | h | h | h | h | h | h | h | h <;> rw [← h] <;> decide +kernel
theorem let_dig : ∀ c ∈ LET.cps.toList, c ∉ DIG.cps.toList := by decide +kernel
theorem sml_let : ∀ c ∈ SML.cps.toList, c ∈ LET.cps.toList := by decide +kernel
theorem cat_eq : (SML ++ LRG ++ DIG : Str).cps.toList = LET.cps.toList ++ DIG.cps.toList := by decide +kernel
theorem aln_all (z : Str) : (z.cps.toList.map fun c => D.str ⟨#[c]⟩).filter alnF = [] ↔ (z.cps.toList.all fun c => decide (c ∈ LET.cps.toList) || decide (c ∈ DIG.cps.toList)) = true := by
  rw [List.filter_eq_nil_iff, List.all_eq_true]
  constructor
  · intro h c hc
    have := h _ (List.mem_map.mpr ⟨c, hc, rfl⟩)
    simp only [alnF, hd0, cat_eq] at this
    simpa [Decidable.or_iff_not_imp_left] using this
  · intro h x hx
    obtain ⟨c, hc, rfl⟩ := List.mem_map.mp hx
    have := h c hc
    simp only [alnF, hd0, cat_eq]
    simpa [Decidable.or_iff_not_imp_left] using this
theorem hd_mem {z : Str} (h : 1 ≤ z.length) : hd0 z ∈ z.cps.toList := by
  rw [len_str] at h
  unfold hd0
  cases e : z.cps.toList with
  | nil => rw [e] at h; simp at h
  | cons a b => exact List.mem_cons_self ..
/-- the law's reading, in the words of the program -/
theorem sort_eq (z : Str) : sortS z = if nameS z then (if hd0 z ∈ SML.cps.toList then ("low" : Str) else if L2.cutS z none (some 2) = "Fn" then ("high" : Str) else ("free" : Str)) else ("" : Str) := by
  unfold sortS nameS
  rcases Nat.lt_or_ge z.length 1 with h1 | h1
  · rw [if_neg (by omega), decide_eq_false (by omega)]; rfl
  rcases Nat.lt_or_ge 10 z.length with h2 | h2
  · rw [if_neg (by omega), decide_eq_false (p := z.length ≤ 10) (by omega)]; simp
  rw [if_pos ⟨h1, h2⟩, decide_eq_true h1, decide_eq_true h2]
  by_cases h3' : ¬(z.cps.toList.all fun c => decide (c ∈ LET.cps.toList) || decide (c ∈ DIG.cps.toList)) = true
  · rw [if_neg (fun g => h3' ((aln_all z).mp g)), (Bool.not_eq_true _).mp h3']; simp
  have h3 := Decidable.not_not.mp h3'
  rw [if_pos ((aln_all z).mpr h3), h3]
  by_cases h4 : hd0 z ∈ DIG.cps.toList
  · rw [if_pos h4, decide_eq_false (fun g => let_dig _ g h4)]; simp
  have h5 : hd0 z ∈ LET.cps.toList := by
    have := List.all_eq_true.mp h3 _ (hd_mem h1)
    simpa [h4] using this
  rw [if_neg h4, decide_eq_true h5]
  by_cases h6 : hd0 z ∈ SML.cps.toList
  · rw [if_pos h6, if_pos h6]
    cases h7 : inD (.str z) WRD <;> simp
  · rw [if_neg h6, if_neg h6]
    have h7 : inD (.str z) WRD = false := by
      cases g : inD (.str z) WRD with
      | false => rfl
      | true => exact absurd (wrd_small g) h6
    rw [h7]
    simp
theorem low_ok {w : D} (h : wordOk w) : lowD w = owed w [.str "low"] := by
  have e1 : inD (.str "high") [.str "low"] = false := by decide +kernel
  unfold owed
  rw [e1, Bool.false_and, Bool.or_false]
  rcases h with ⟨z, rfl, _⟩ | rfl | rfl | rfl | rfl | rfl | ⟨p, rfl⟩
  · show lowS z = inD (.str (sortS z)) _
    rw [sort_eq]
    unfold lowS
    cases nameS z with
    | false => simp; decide +kernel
    | true =>
      simp only [if_true]
      split
      · rename_i h; rw [decide_eq_true h]; decide +kernel
      · rename_i h; rw [decide_eq_false h]; split <;> decide +kernel
  all_goals first | (show false = inD (.str "") _; decide +kernel) | (show false = (inD (.str "") _ || false); decide +kernel)
theorem free_ok {w : D} (h : wordOk w) : freeD w = owed w [.str "free"] := by
  have e1 : inD (.str "high") [.str "free"] = false := by decide +kernel
  unfold owed
  rw [e1, Bool.false_and, Bool.or_false]
  rcases h with ⟨z, rfl, _⟩ | rfl | rfl | rfl | rfl | rfl | ⟨p, rfl⟩
  · show freeS z = inD (.str (sortS z)) _
    rw [sort_eq]
    unfold freeS highS
    cases nameS z with
    | false => simp; decide +kernel
    | true =>
      simp only [if_true]
      split
      · rename_i h; rw [decide_eq_true h]; simp; decide +kernel
      · rename_i h; rw [decide_eq_false h]
        split
        · rename_i g; rw [decide_eq_true g]; decide +kernel
        · rename_i g; rw [decide_eq_false g]; decide +kernel
  all_goals first | (show false = inD (.str "") _; decide +kernel) | (show false = (inD (.str "") _ || false); decide +kernel)
theorem kind_ok {w : D} (h : wordOk w) : kindD w = owed w [.str "free", .str "high"] := by
  have e1 : inD (.str "high") [.str "free", .str "high"] = true := by decide +kernel
  unfold owed
  rw [e1, Bool.true_and]
  rcases h with ⟨z, rfl, _⟩ | rfl | rfl | rfl | rfl | rfl | ⟨p, rfl⟩
  · show kindS z = (inD (.str (sortS z)) _ || decide (z = "whole"))
    rw [sort_eq]
    unfold kindS highS
    have e2 : inD (.str "low") [.str "free", .str "high"] = false := by decide +kernel
    have e3 : inD (.str "") [.str "free", .str "high"] = false := by decide +kernel
    have e4 : inD (.str "free") [.str "free", .str "high"] = true := by decide +kernel
    cases nameS z with
    | false => simp [e3]
    | true =>
      simp only [if_true]
      split
      · rename_i h; rw [decide_eq_true h, e2]; simp
      · rename_i h; rw [decide_eq_false h]
        split
        · rw [e1]; simp
        · rw [e4]; simp
  all_goals first | (show false = inD (.str "") _; decide +kernel) | (show false = (inD (.str "") _ || false); decide +kernel)
theorem type_w {w : D} (h : wordOk w) : ∀ k, typeF k w = kindD w := by
  intro k
  rcases h with ⟨z, rfl, _⟩ | rfl | rfl | rfl | rfl | rfl | ⟨p, rfl⟩ <;> cases k <;> rfl
theorem fM : freeD (.str "M") = true := by decide +kernel
theorem fK : freeD (.str "K") = true := by decide +kernel
theorem lf : lowD (.str "f") = true := by decide +kernel
theorem lx : lowD (.str "x") = true := by decide +kernel
theorem tW : typeF 5 (.str "whole") = true := by decide +kernel
theorem isW_of {a b : Str} : isW a (.str b) = decide (b = a) := rfl
theorem body_one {m : Int} (h : 0 ≤ m - 2) (f : Nat) : bodyF (f + 2) oneD m = (true, m - 2) := by
  have e1 : ¬(m - 1 < 0) := by omega
  have e2 : ¬(m - 1 - 1 < 0) := by omega
  have e3 : m - 1 - 1 = m - 2 := by omega
  have e4 : isW "give" (.str "give") = true := by decide
  have e5 : isW "num" (.str "num") = true := by decide
  show (if m - 1 < 0 then (false, m - 1) else if isW "give" (.str "give") = true then exprF (f + 1) nD (m - 1) else (false, m - 1)) = _
  rw [if_neg e1, if_pos e4]
  show (if m - 1 - 1 < 0 then (false, m - 1 - 1) else if isW "num" (.str "num") = true then (withinD (-1000000000000) 1000000000000 (.int 1), m - 1 - 1) else _) = _
  rw [if_neg e2, if_pos e5, e3]
  rfl
theorem expr_n {m : Int} (h : 0 ≤ m - 1) (f : Nat) : exprF (f + 1) nD m = (true, m - 1) := by
  have e2 : ¬(m - 1 < 0) := by omega
  have e5 : isW "num" (.str "num") = true := by decide
  show (if m - 1 < 0 then (false, m - 1) else if isW "num" (.str "num") = true then (withinD (-1000000000000) 1000000000000 (.int 1), m - 1) else _) = _
  rw [if_neg e2, if_pos e5]
  rfl
theorem treeF_kinds {ks : List D} (h : ks.length ≤ 8) : treeF (.tup [.tup ks, .tup []]) = ks.all entryF := by
  show (kindsF (.tup ks) && (decide (0 ≤ 12) && true)) = _
  unfold kindsF
  simp [h]
theorem treeF_defs {ds : List D} (h : ds.length ≤ 12) : treeF (.tup [.tup [], .tup ds]) = ds.all defF := by
  show (true && (decide (ds.length ≤ 12) && ds.all defF)) = _
  simp [h]
theorem plain11 {w : D} (h : wordOk w) : ∀ x ∈ placedD w, ∃ ks ds ss, x = .tup [ks, ds, .tup ss] ∧ treeF (.tup [ks, ds]) = owed w ss ∧ ss.all flatD = true := by
  have hF := free_ok h
  have hL := low_ok h
  have hK := kind_ok h
  intro x hx
  simp only [placedD, base, bods, List.map_cons, List.map_nil, mkB, List.cons_append, List.nil_append, List.mem_cons, List.not_mem_nil, or_false] at hx
  rcases hx with rfl | rfl | rfl | rfl | rfl | rfl | rfl | rfl | rfl | rfl | rfl | rfl
  · refine ⟨_, _, _, rfl, ?_, rfl⟩
    rw [treeF_kinds (by simp), ← hF]
    simp [entryF, makerF, fM]
  · refine ⟨_, _, _, rfl, ?_, rfl⟩
    rw [treeF_kinds (by simp), ← hF]
    simp [entryF, makerF, fK]
  · refine ⟨_, _, _, rfl, ?_, rfl⟩
    rw [treeF_kinds (by simp), ← hK]
    simp [entryF, makerF, fK, fM, type_w h]
  · refine ⟨_, _, _, rfl, ?_, rfl⟩
    rw [treeF_kinds (by simp), ← hK]
    simp [entryF, makerF, fK, fM]
    show (decide (1 ≤ 5) && (isW "to" (.str "to") && (typeF 5 (.str "whole") && typeF 5 w))) = _
    rw [tW, type_w h]
    have : isW "to" (.str "to") = true := by decide
    rw [this]
    rfl
  · refine ⟨_, _, _, rfl, ?_, rfl⟩
    rw [treeF_defs (by simp), ← hL]
    simp [defF, body_one]
  · refine ⟨_, _, _, rfl, ?_, rfl⟩
    rw [treeF_defs (by simp), ← hL]
    simp [defF, body_one, lf, lx]
  · refine ⟨_, _, _, rfl, ?_, rfl⟩
    rw [treeF_defs (by simp), ← hL]
    simp (decide := true) [defF, lf, bodyF, isW, expr_n, body_one, thenM]
    cases lowD w <;> rfl
  · refine ⟨_, _, _, rfl, ?_, rfl⟩
    rw [treeF_defs (by simp), ← hL]
    simp (decide := true) [defF, lf, bodyF, isW, expr_n, body_one, thenM, exprF]
  · refine ⟨_, _, _, rfl, ?_, rfl⟩
    rw [treeF_defs (by simp), ← hL]
    simp (decide := true) [defF, lf, bodyF, isW, expr_n, body_one, thenM, exprF]
    cases lowD w <;> rfl
  · refine ⟨_, _, _, rfl, ?_, rfl⟩
    rw [treeF_defs (by simp), ← hL]
    simp (decide := true) [defF, lf, bodyF, isW, expr_n, body_one, thenM, allM, fM, lx]
    cases lowD w <;> rfl
  · refine ⟨_, _, _, rfl, ?_, rfl⟩
    rw [treeF_defs (by simp), ← hF]
    simp (decide := true) [defF, lf, bodyF, isW, expr_n, body_one, thenM, allM]
    cases freeD w <;> rfl
  · refine ⟨_, _, _, rfl, ?_, rfl⟩
    rw [treeF_defs (by simp), ← hF]
    simp (decide := true) [defF, lf, bodyF, isW, expr_n, thenM, allM, exprF]
    cases freeD w <;> rfl
theorem wf_w {S : Sto} {w : D} (h : wordOk w) (hl : ∀ p, w = .loc p → S p = some (.lst [.str "x"])) : WF S w ∧ EqOk S w := by
  have z1 : sizeLine = 16777216 := rfl
  rcases h with ⟨z, rfl, a1, a2⟩ | rfl | rfl | rfl | rfl | rfl | ⟨p, rfl⟩
  · refine ⟨.str (by omega), .str z, .str z, shp ?_⟩
    unfold PyData.strOk
    rw [← Array.all_toList, List.all_eq_true]
    intro c hc
    have := a2 c hc
    exact decide_eq_true (by omega)
  · exact ⟨.non, .none, .non, rfl⟩
  · exact ⟨.int, .int 7, .int 7, rfl⟩
  · exact ⟨.bl, .bool true, .bl true, rfl⟩
  · exact ⟨.tup (fun x h => by cases h) (fun x h => by cases h) (fun x h => by cases h) (Nat.zero_le _), .tuple [], .tup .nil, by simp [SeqAt.shaped, PyData.canLay0, PyData.canLayAll0, PyData.depth, PyData.depthAll]⟩
  · refine ⟨.tup (fun x h => ?_) (fun x h => by cases h; exact .inl rfl) (fun x h => by cases h) (by show 1 ≤ sizeLine; decide), .tuple [.str "x"], .tup (.cons (.str _) .nil), ?_⟩
    · simp at h; subst h; exact .str (by decide +kernel)
    · have : PyData.strOk "x" = true := by kernel_rfl
      simp [SeqAt.shaped, PyData.canLay0, PyData.canLayAll0, PyData.depth, PyData.depthAll, this]
  · refine ⟨.loc (hl p rfl), .list [.str "x"], .lst (hl p rfl) (.cons (.str _) .nil), ?_⟩
    have : PyData.strOk "x" = true := by kernel_rfl
    simp [SeqAt.shaped, PyData.canLay0, PyData.canLayAll0, PyData.depth, PyData.depthAll, this]
theorem wf_str' {S : Sto} {z : Str} (h : z.length ≤ 40) : WF S (.str z) := .str (by have : sizeLine = 16777216 := rfl; omega)
theorem wf_str {S : Sto} {z : Str} (h : z.length ≤ 30) : WF S (.str z) := .str (by have : sizeLine = 16777216 := rfl; omega)
/-- good data of small depth -/
def QW (S : Sto) (k : Nat) (x : D) : Prop := WF S x ∧ ∃ d, DP S x d ∧ d.canLay0 = true ∧ d.depth ≤ k
def QWs (S : Sto) (k : Nat) : List D → Prop
  | [] => True
  | x :: r => QW S k x ∧ QWs S k r
theorem QW.le {S : Sto} {k j : Nat} {x : D} (h : QW S k x) (l : k ≤ j) : QW S j x := ⟨h.1, let ⟨d, a, b, c⟩ := h.2; ⟨d, a, b, Nat.le_trans c l⟩⟩
theorem QWs.mem {S : Sto} {k : Nat} : ∀ {xs : List D}, QWs S k xs → ∀ x, x ∈ xs → QW S k x
  | [], _, x, h => by cases h
  | y :: r, h, x, hx => by
    rcases List.mem_cons.mp hx with rfl | hx
    · exact h.1
    · exact QWs.mem h.2 x hx
theorem QWs.dp {S : Sto} {k : Nat} : ∀ {xs : List D}, QWs S k xs → ∃ ds, DPs S xs ds ∧ PyData.canLayAll0 ds = true ∧ PyData.depthAll ds ≤ k
  | [], _ => ⟨[], .nil, rfl, Nat.zero_le _⟩
  | _ :: r, h => by
    obtain ⟨_, d, a, b, c⟩ := h.1
    obtain ⟨ds, a1, b1, c1⟩ := QWs.dp h.2
    exact ⟨d :: ds, .cons a a1, by simp [PyData.canLayAll0, b, b1], by simp [PyData.depthAll]; omega⟩
theorem QW.tup {S : Sto} {k : Nat} {xs : List D} (h : QWs S k xs) (hk : k ≤ 64) (ho : ∀ x, xs.length = 4 → xs[1]? = some x → isW "op" (xs.headD .non) = true → flatD x = true) (hs : xs.length ≤ 1000) : QW S (k + 1) (.tup xs) := by
  refine ⟨.tup (fun x hx => (h.mem x hx).1) (fun x hx => .inr ?_) ho (by have : sizeLine = 16777216 := rfl; omega), ?_⟩
  · obtain ⟨_, d, a, b, c⟩ := h.mem x (List.mem_of_getElem? hx)
    exact ⟨d, a, by simp [SeqAt.shaped, b]; omega⟩
  · obtain ⟨ds, a1, b1, c1⟩ := h.dp
    exact ⟨.tuple ds, .tup a1, by simp [PyData.canLay0, b1], by simp [PyData.depth]; omega⟩
theorem QW.str {S : Sto} {z : Str} (h : asciiB z = true) : QW S 0 (.str z) := by
  obtain ⟨h1, h2⟩ := asciiB_ok h
  refine ⟨wf_str' h1, .str z, .str z, ?_, Nat.le_refl _⟩
  simp only [PyData.canLay0]
  unfold PyData.strOk
  rw [← Array.all_toList, List.all_eq_true]
  intro c hc
  have := h2 c hc
  exact decide_eq_true (by omega)
theorem QW.int {S : Sto} {z : Int} : QW S 0 (.int z) := ⟨.int, .int z, .int z, rfl, Nat.le_refl _⟩
theorem QW.wrd {S : Sto} {w : D} (h : wordOk w) (hl : ∀ p, w = .loc p → S p = some (.lst [.str "x"])) : QW S 1 w := by
  refine ⟨(wf_w h hl).1, ?_⟩
  rcases h with ⟨z, rfl, a1, a2⟩ | rfl | rfl | rfl | rfl | rfl | ⟨p, rfl⟩
  · refine ⟨.str z, .str z, ?_, Nat.zero_le _⟩
    simp only [PyData.canLay0]
    unfold PyData.strOk
    rw [← Array.all_toList, List.all_eq_true]
    intro c hc
    have := a2 c hc
    exact decide_eq_true (by omega)
  · exact ⟨.none, .non, rfl, Nat.zero_le _⟩
  · exact ⟨.int 7, .int 7, rfl, Nat.zero_le _⟩
  · exact ⟨.bool true, .bl true, rfl, Nat.zero_le _⟩
  · exact ⟨.tuple [], .tup .nil, rfl, by simp [PyData.depth, PyData.depthAll]⟩
  · have : PyData.strOk "x" = true := by kernel_rfl
    exact ⟨.tuple [.str "x"], .tup (.cons (.str _) .nil), by simp [PyData.canLay0, PyData.canLayAll0, this], by simp [PyData.depth, PyData.depthAll]⟩
  · have : PyData.strOk "x" = true := by kernel_rfl
    exact ⟨.list [.str "x"], .lst (hl p rfl) (.cons (.str _) .nil), by simp [PyData.canLay0, PyData.canLayAll0, this], by simp [PyData.depth, PyData.depthAll]⟩
local macro_rules | `(tactic| walk_at "q") => `(tactic| repeat (first
  | exact trivial | exact QW.int.le (by omega) | exact (QW.str (by decide +kernel)).le (by omega) | exact QW.le (by assumption) (by omega)
  | refine And.intro (b := QWs _ _ _) ?_ ?_ | refine QW.tup ?_ (by omega) (fun x h1 h2 h3 => by first | (simp at h1; done) | (cases h2; done) | exact absurd (show isW "op" (.str "let") = true from h3) (by decide)) (by simp)))
theorem wf11 {S : Sto} {w : D} (h : wordOk w) (hl : ∀ p, w = .loc p → S p = some (.lst [.str "x"])) : ∀ x ∈ placedD w, ∀ ks ds ss, x = .tup [ks, ds, ss] → WF S (.tup [ks, ds]) := by
  have hq := QW.wrd h hl
  suffices hh : ∀ x ∈ placedD w, ∃ ks ds ss, x = .tup [ks, ds, ss] ∧ QW S 21 (.tup [ks, ds]) by
    intro x hx ks ds ss e
    obtain ⟨a, b, c, e2, e3⟩ := hh x hx
    rw [e] at e2
    cases e2
    exact e3.1
  intro x hx
  simp only [placedD, base, bods, List.map_cons, List.map_nil, mkB, List.cons_append, List.nil_append, List.mem_cons, List.not_mem_nil, or_false] at hx
  rcases hx with rfl | rfl | rfl | rfl | rfl | rfl | rfl | rfl | rfl | rfl | rfl | rfl
  all_goals (refine ⟨_, _, _, rfl, ?_⟩; walk_at "q")
def forBody : IS → IB
  | .for_ _ _ b => b
  | _ => .nil
def nthS : Nat → IB → IS
  | 0, .cons s _ => s
  | k + 1, .cons _ r => nthS k r
  | _, .nil => .pass
def dropB : Nat → IB → IB
  | 0, b => b
  | k + 1, .cons _ r => dropB k r
  | _, .nil => .nil
def turnB : IB := forBody (nthS 1 b_law)
def innerB : IB := forBody (nthS 1 turnB)
/-- one program of a word -/
theorem inner11 {W : Wd} (h : H_law W) {n : Nat} (hn : 75 ≤ n) {E : DXS} {S : Sto} {w : D} {ks ds : D} {ss : List D} {o0 o1 o2 o7 : Option D} {F : DEnds} (hw : wordOk w) (hl : ∀ p, w = .loc p → S p = some (.lst [.str "x"])) (hx : .tup [ks, ds, .tup ss] ∈ placedD w)
   (q : ∀ o7, F.nx [o0, o1, o2, some w, some ks, some ds, some (.tup ss), o7] S) : dB (W.gm (dcall W n)) E innerB F [o0, o1, o2, some w, some ks, some ds, some (.tup ss), o7] S := by
  unfold innerB turnB b_law
  dsimp only [forBody, nthS]
  have hwf := wf11 hw hl _ hx ks ds (.tup ss) rfl
  obtain ⟨ks', ds', ss', e, e1, e2⟩ := plain11 hw _ hx
  cases e
  have fin : ∀ b, b = owed w ss → dB (W.gm (dcall W n)) E (dropB 1 innerB) F [o0, o1, o2, some w, some ks, some ds, some (.tup ss), some (.bl b)] S := by
    intro b hb
    unfold innerB turnB b_law
    dsimp only [forBody, nthS, dropB]
    walk_at "es"
    refine And.intro (a := List.length _ ≤ sizeLine) (by show 2 ≤ sizeLine; decide) ?_
    walk_at "es"
    refine c_is_program h.h_is_program (by omega) hwf (fun g => ?_) fun g => ?_
    · walk_at "es"
      refine c_same_bl h.h__law_same (by omega) (fun g2 => ?_) fun g2 => absurd (by rw [hb, ← e1, g]) g2
      walk_at "es"
      exact q _
    · walk_at "es"
      refine c_same_bl h.h__law_same (by omega) (fun g2 => ?_) fun g2 => absurd (by rw [hb, ← e1, g]) g2
      walk_at "es"
      exact q _
  walk_at "es"
  refine c_sort h.h__law_sort (by omega) (wf_w hw hl).1.ty (fun z e => ?_) ?_
  · subst e
    rcases hw with ⟨z', e, h⟩ | h | h | h | h | h | ⟨p, h⟩
    · cases e; exact h
    all_goals cases h
  walk_at "es"
  refine o_inT rfl e2 (fun g => ?_) fun g => ?_
  · walk_at "es"
    exact fin true (by unfold owed; rw [g]; rfl)
  · walk_at "es"
    refine o_inT rfl e2 (fun g2 => ?_) fun g2 => ?_
    · walk_at "es"
      refine k_str (wf_w hw hl).1.ty (fun z e => ?_) fun e => ?_
      · subst e
        walk_at "es"
        refine o_eqs (fun g3 => ?_) fun g3 => ?_
        · walk_at "es"
          exact fin true (by unfold owed; rw [g, g2]; simp [isW, g3])
        · walk_at "es"
          exact fin false (by unfold owed; rw [g, g2]; simp [isW, g3])
      · walk_at "es"
        exact fin false (by unfold owed; rw [g, g2]; cases w <;> first | rfl | cases e)
    · walk_at "es"
      exact fin false (by unfold owed; rw [g, g2]; rfl)
/-- a turn, from its word on -/
theorem turn11 {W : Wd} (h : H_law W) {n : Nat} (hn : 75 ≤ n) {E : DXS} {S S0 : Sto} {w : D} {u c : Addr} {v : UV} {o0 o1 o2 o4 o5 o6 o7 : Option D} {F : DEnds} (hu : u ≠ c) (hw : wordOk w) (hl : ∀ p, w = .loc p → p ≠ u ∧ p ≠ c ∧ S p = some (.lst [.str "x"])) (hs : Sub S0 S)
   (q : ∀ o4 o5 o6 o7 S', Sub (urnS S0 u c v) S' → F.nx [o0, o1, o2, some w, o4, o5, o6, o7] S') : dB (W.gm (dcall W n)) E (dropB 1 turnB) F [o0, o1, o2, some w, o4, o5, o6, o7] (urnS S u c v) := by
  unfold turnB b_law
  dsimp only [forBody, nthS, dropB]
  walk_at "es"
  refine c_placed h.h__law_placed (by omega) fun p hp => ?_
  have n1 := urnS_pu hu hp
  have n2 := urnS_pc hu hp
  rw [put_urn n1 n2]
  have hS := urnS_none hu hp
  walk_at "es"
  have hG : urnS (put S p (.lst (placedD w))) u c v p = some (.lst (placedD w)) := by rw [urnS_ne n1 n2]; exact put_same
  refine s_lst hG ?_
  refine forL_inv (fun r δ S' => S' = urnS (put S p (.lst (placedD w))) u c v ∧ (∃ o4 o5 o6 o7, δ = [o0, o1, o2, some w, o4, o5, o6, o7]) ∧ ∀ x, x ∈ r → x ∈ placedD w) (fun r δ S' i => by rw [i.1]; exact hG) ?_ ?_ _ _ _ ⟨rfl, ⟨_, _, _, _, rfl⟩, fun _ h => h⟩
  · rintro x r δ S' ⟨rfl, ⟨o4, o5, o6, o7, rfl⟩, hr⟩ k hk
    have hx := hr x (List.mem_cons_self ..)
    obtain ⟨ks, ds, ss, rfl, e1, e2⟩ := plain11 hw _ hx
    refine ⟨rfl, ?_⟩
    refine inner11 h hn hw (fun p' e => ?_) hx fun o7 => ?_
    · obtain ⟨m1, m2, m3⟩ := hl p' e
      rw [urnS_ne m1 m2]
      exact Sub.newO (o := .lst (placedD w)) Sub.refl hS _ _ m3
    · exact hk _ _ _ Sub.refl ⟨rfl, ⟨_, _, _, _, rfl⟩, fun x hx => hr x (List.mem_cons_of_mem _ hx)⟩
  · rintro δ S' ⟨rfl, ⟨o4, o5, o6, o7, rfl⟩, hr⟩
    exact q _ _ _ _ _ (urn_sub (Sub.newO hs (hs.noneO hS)))
theorem law11 {W : Wd} (h : H_law W) {n : Nat} (hn : 80 ≤ n) {ns : List Int} (hl : ns.length ≤ 63) : dcall W n 26 [.rl (ns.map .int)] (fun _ => none) (fun v _ => v = .bl true) (fun _ _ _ => False) := by
  obtain ⟨n, rfl, hn⟩ := pred hn
  refine call_of h.f_law rfl rfl ?_
  unfold b_law
  walk_at "in"
  walk_at "es"
  refine c_urn h.h__law_urn (by omega) (by omega) fun u c v0 hu hSu hSc hv0 => ?_
  walk_at "es"
  refine b_lenR ?_
  walk_at "es"
  refine b_min2 ?_
  walk_at "es"
  rw [List.length_map]
  refine ⟨by split <;> omega, by split <;> omega, ?_⟩
  generalize hj : (8 + if (9 : Int) < ns.length then (9 : Int) else ns.length) = j
  have hj1 : j ≤ 17 := by rw [← hj]; split <;> omega
  refine forL_inv (fun r δ S' => ∃ v, S' = urnS (fun _ => none) u c v ∧ (∃ o2 o3 o4 o5 o6 o7, δ = [some (.rl (ns.map .int)), some (.loc u), o2, o3, o4, o5, o6, o7]) ∧ UV.ok v (10000 - 200 * r.length) ∧ r.length ≤ 17) (fun _ _ _ _ => trivial) ?_ ?_ _ _ _ ⟨v0, rfl, ⟨_, _, _, _, _, _, rfl⟩, hv0.le (by simp [rangeD]; omega), by simp [rangeD]; omega⟩
  · rintro x r δ S' ⟨v, rfl, ⟨o2, o3, o4, o5, o6, o7, rfl⟩, hv, hr⟩ k hk
    simp only [List.length_cons] at hv hr
    have go : ∀ S1 w v', wordOk w → (∀ p, w = .loc p → p ≠ u ∧ p ≠ c ∧ S1 p = some (.lst [.str "x"])) → UV.ok v' (10000 - 200 * r.length) → dB (W.gm (dcall W n)) (fun c fs _ S' => ∃ T, Sub T S' ∧ False) (dropB 1 turnB) { nx := k, rt := (ends fun v _ => v = .bl true).rt, bk := dB (W.gm (dcall W n)) (fun c fs _ S' => ∃ T, Sub T S' ∧ False) (dropB 2 b_law) (ends fun v _ => v = .bl true), ct := k } [some (.rl (ns.map .int)), some (.loc u), some x, some w, o4, o5, o6, o7] (urnS S1 u c v') := by
      intro S1 w v' hw hl' hv'
      refine turn11 h (by omega) hu hw hl' (S0 := fun _ => none) (fun _ _ h => by cases h) fun o4 o5 o6 o7 S' hs => ?_
      exact hk _ _ _ hs ⟨v', rfl, ⟨_, _, _, _, _, _, rfl⟩, hv', by omega⟩
    walk_at "es"
    refine c_ball h.h__law_ball (by omega) hu (by decide) (by decide) hv (by omega) fun r1 v1 r10 r11 hv1 => ?_
    walk_at "es"
    refine o_gt (fun g => ?_) fun g => ?_
    · walk_at "es"
      refine c_string h.h__law_string (by omega) hu hv1 (by omega) fun z v2 hz hv2 => ?_
      exact go _ (.str z) v2 (.inl ⟨z, rfl, hz⟩) (fun p e => by cases e) (hv2.le (by omega))
    · walk_at "es"
      refine ⟨Nat.zero_le _, ?_⟩
      walk_at "es"
      refine And.intro (a := List.length _ ≤ sizeLine) (by show 1 ≤ sizeLine; decide) ?_
      walk_at "es"
      refine ⟨by show 1 ≤ sizeLine; decide, fun p hp => ?_⟩
      have n1 := urnS_pu hu hp
      have n2 := urnS_pc hu hp
      rw [put_urn n1 n2]
      have hS := urnS_none hu hp
      walk_at "es"
      refine And.intro (a := List.length _ ≤ sizeLine) (by show 6 ≤ sizeLine; decide) fun p2 hp2 => ?_
      have n3 := urnS_pu hu hp2
      have n4 := urnS_pc hu hp2
      rw [put_urn n3 n4]
      have hS2 := urnS_none hu hp2
      have np : p2 ≠ p := (ne_st put_same hS2).symm
      walk_at "es"
      refine c_ball h.h__law_ball (by omega) hu (by decide) (by decide) hv1 (by omega) fun r2 v2 r20 r21 hv2 => ?_
      obtain ⟨d, e1, e2⟩ := atR (xs := [.non, .int 7, .bl true, .tup [], .tup [.str "x"], .loc p]) r20 (by simpa using r21) (by simp)
      refine i_lst (by rw [urnS_ne n3 n4]; exact put_same) e1 ?_
      have hw : wordOk d ∧ ∀ q, d = .loc q → q = p := by
        simp only [List.mem_cons, List.not_mem_nil, or_false] at e2
        rcases e2 with rfl | rfl | rfl | rfl | rfl | rfl
        · exact ⟨.inr (.inl rfl), fun q e => by cases e⟩
        · exact ⟨.inr (.inr (.inl rfl)), fun q e => by cases e⟩
        · exact ⟨.inr (.inr (.inr (.inl rfl))), fun q e => by cases e⟩
        · exact ⟨.inr (.inr (.inr (.inr (.inl rfl)))), fun q e => by cases e⟩
        · exact ⟨.inr (.inr (.inr (.inr (.inr (.inl rfl))))), fun q e => by cases e⟩
        · exact ⟨.inr (.inr (.inr (.inr (.inr (.inr ⟨p, rfl⟩))))), fun q e => by cases e; rfl⟩
      refine go _ d v2 hw.1 (fun q e => ?_) (hv2.le (by omega))
      rw [hw.2 q e]
      exact ⟨n1, n2, by rw [put_ne np.symm]; exact put_same⟩
  · rintro δ S' ⟨v, rfl, ⟨o2, o3, o4, o5, o6, o7, rfl⟩, hv, hr⟩
    walk_at "es"
    exact ⟨_, Sub.refl, rfl⟩
end Z
namespace K11
open PySem PySem.Spec PyProof.Rows L2 Z
def top (i : Nat) : Stmt := PySem.Challenge.pw_flatfuns_k11_names_of_each_sort.main.body.getD i (.Pass ⟨0, 0, 0, 0⟩)
def fbs0 : List (Nat × FB) := [
  (0, ⟨1, 1, b_is_int⟩),
  (1, ⟨3, 3, b_within⟩),
  (2, ⟨3, 3, b_is_tuple⟩),
  (3, ⟨1, 2, b_is_name⟩),
  (4, ⟨1, 1, b_is_low⟩),
  (5, ⟨1, 1, b_is_high⟩),
  (6, ⟨1, 1, b_is_free_name⟩),
  (7, ⟨1, 1, b_is_kind_name⟩),
  (8, ⟨2, 2, b_is_type⟩),
  (9, ⟨1, 2, b_is_maker⟩),
  (10, ⟨1, 3, b_are_program_kinds⟩),
  (11, ⟨1, 1, b_Meter_init⟩)]
def fbs1 : List (Nat × FB) := [
  (12, ⟨2, 2, b_Meter_take⟩),
  (13, ⟨3, 4, b_is_expression⟩),
  (14, ⟨3, 4, b_are_args⟩),
  (15, ⟨3, 4, b_is_branch⟩),
  (16, ⟨3, 5, b_is_body⟩),
  (17, ⟨1, 2, b_is_def⟩),
  (18, ⟨1, 2, b_is_tree⟩),
  (19, ⟨1, 1, b_is_program⟩),
  (20, ⟨1, 3, b__law_urn⟩),
  (21, ⟨2, 3, b__law_ball⟩),
  (22, ⟨2, 3, b__law_same⟩),
  (23, ⟨1, 4, b__law_sort⟩)]
def fbs2 : List (Nat × FB) := [
  (24, ⟨1, 6, b__law_string⟩),
  (25, ⟨1, 9, b__law_placed⟩),
  (26, ⟨1, 8, b_law⟩)]
def fbs : List (Nat × FB) := fbs0 ++ fbs1 ++ fbs2
def tab0 : List (Nat × FDef) := [
  (0, ⟨("is_int", none), "is_int", "is_int", ["x"], top 8⟩),
  (1, ⟨("within", none), "within", "within", ["x", "low", "high"], top 9⟩),
  (2, ⟨("is_tuple", none), "is_tuple", "is_tuple", ["thing", "least", "most"], top 10⟩),
  (3, ⟨("is_name", none), "is_name", "is_name", ["x", "sign"], top 11⟩),
  (4, ⟨("is_low", none), "is_low", "is_low", ["x"], top 12⟩),
  (5, ⟨("is_high", none), "is_high", "is_high", ["x"], top 13⟩),
  (6, ⟨("is_free_name", none), "is_free_name", "is_free_name", ["x"], top 14⟩),
  (7, ⟨("is_kind_name", none), "is_kind_name", "is_kind_name", ["x"], top 15⟩),
  (8, ⟨("is_type", none), "is_type", "is_type", ["thing", "deepest"], top 25⟩),
  (9, ⟨("is_maker", none), "is_maker", "is_maker", ["thing", "field"], top 26⟩),
  (10, ⟨("are_program_kinds", none), "are_program_kinds", "are_program_kinds", ["thing", "entry", "maker"], top 27⟩),
  (11, ⟨("Meter", some "__init__"), "__init__", "Meter.__init__", ["self"], inClass (top 28) 0⟩)]
def tab1 : List (Nat × FDef) := [
  (12, ⟨("Meter", some "take"), "take", "Meter.take", ["self", "many"], inClass (top 28) 1⟩),
  (13, ⟨("is_expression", none), "is_expression", "is_expression", ["thing", "deep", "meter", "word"], top 29⟩),
  (14, ⟨("are_args", none), "are_args", "are_args", ["thing", "deep", "meter", "arg"], top 30⟩),
  (15, ⟨("is_branch", none), "is_branch", "is_branch", ["thing", "deep", "meter", "name"], top 31⟩),
  (16, ⟨("is_body", none), "is_body", "is_body", ["thing", "deep", "meter", "word", "branch"], top 32⟩),
  (17, ⟨("is_def", none), "is_def", "is_def", ["thing", "param"], top 33⟩),
  (18, ⟨("is_tree", none), "is_tree", "is_tree", ["thing", "entry"], top 34⟩),
  (19, ⟨("is_program", none), "is_program", "is_program", ["thing"], top 36⟩),
  (20, ⟨("_law_urn", none), "_law_urn", "_law_urn", ["script", "mixed", "cell"], top 38⟩),
  (21, ⟨("_law_ball", none), "_law_ball", "_law_ball", ["urn", "many", "found"], top 39⟩),
  (22, ⟨("_law_same", none), "_law_same", "_law_same", ["found", "owed", "k"], top 40⟩),
  (23, ⟨("_law_sort", none), "_law_sort", "_law_sort", ["word", "small", "large", "sign"], top 41⟩)]
def tab2 : List (Nat × FDef) := [
  (24, ⟨("_law_string", none), "_law_string", "_law_string", ["urn", "way", "signs", "text", "k", "some"], top 42⟩),
  (25, ⟨("_law_placed", none), "_law_placed", "_law_placed", ["word", "one", "found", "bodies", "n", "free", "low", "body", "sorts"], top 43⟩),
  (26, ⟨("law", none), "law", "law", ["script", "urn", "turn", "word", "kinds", "defs", "sorts", "owed"], top 44⟩)]
def tab : List (Nat × FDef) := tab0 ++ tab1 ++ tab2
def cons0 : List (Nat × Str × D) := [
  (0, "LETTERS", .str "abcdefghijklmnopqrstuvwxyzABCDEFGHIJKLMNOPQRSTUVWXYZ"),
  (1, "SMALL", .str "abcdefghijklmnopqrstuvwxyz"),
  (2, "DIGITS", .str "0123456789"),
  (3, "WORDS", .tup [.str "def", .str "else", .str "fn", .str "give", .str "if", .str "kind", .str "let", .str "match", .str "whole"]),
  (4, "LONGEST_NAME", .int 10),
  (5, "GREATEST_NUMBER", .int 1000000000000),
  (6, "GREATEST_FACTOR", .int 1000000),
  (7, "MOST_KINDS", .int 8),
  (8, "MOST_MAKERS", .int 8),
  (9, "MOST_FIELDS", .int 5),
  (10, "MOST_DEFS", .int 12),
  (11, "MOST_PARAMS", .int 6)]
def cons1 : List (Nat × Str × D) := [
  (12, "MOST_PARTS", .int 100),
  (13, "LONGEST_CHAIN", .int 30),
  (14, "DEEPEST_TYPE", .int 6)]
def cons : List (Nat × Str × D) := cons0 ++ cons1
def sy : Sy where
  tab := tab
  fb := fbs
  cons := cons
  cls := [(0, "Meter", 11)]
  mth := [(0, "take", 12)]
  fok := [(0, "spare")]
def names0 : List (PySem.Str) := [
  "LETTERS",
  "SMALL",
  "DIGITS",
  "WORDS",
  "LONGEST_NAME",
  "GREATEST_NUMBER",
  "GREATEST_FACTOR",
  "is_int",
  "within",
  "is_tuple",
  "is_name",
  "is_low"]
def names1 : List (PySem.Str) := [
  "is_high",
  "is_free_name",
  "is_kind_name",
  "MOST_KINDS",
  "MOST_MAKERS",
  "MOST_FIELDS",
  "MOST_DEFS",
  "MOST_PARAMS",
  "MOST_PARTS",
  "LONGEST_CHAIN",
  "DEEPEST_TYPE",
  "is_type"]
def names2 : List (PySem.Str) := [
  "is_maker",
  "are_program_kinds",
  "Meter",
  "is_expression",
  "are_args",
  "is_branch",
  "is_body",
  "is_def",
  "is_tree",
  "is_program",
  "_law_urn",
  "_law_ball"]
def names3 : List (PySem.Str) := [
  "_law_same",
  "_law_sort",
  "_law_string",
  "_law_placed"]
def names : List (PySem.Str) := names0 ++ names1 ++ names2 ++ names3
abbrev lawTop : Nat := 44
abbrev lawId : Nat := 26
theorem hs_is_int {K : PySem.W.Frag} : H_is_int (sy.W K) := ⟨by rfl⟩
theorem hs_within {K : PySem.W.Frag} : H_within (sy.W K) := ⟨by rfl, hs_is_int⟩
theorem hs_is_tuple {K : PySem.W.Frag} : H_is_tuple (sy.W K) := ⟨by rfl⟩
theorem hs_is_name {K : PySem.W.Frag} : H_is_name (sy.W K) := ⟨by rfl, by rfl, by rfl, by rfl, by rfl⟩
theorem hs_is_low {K : PySem.W.Frag} : H_is_low (sy.W K) := ⟨by rfl, by rfl, hs_is_name⟩
theorem hs_is_high {K : PySem.W.Frag} : H_is_high (sy.W K) := ⟨by rfl, by rfl, hs_is_name⟩
theorem hs_is_free_name {K : PySem.W.Frag} : H_is_free_name (sy.W K) := ⟨by rfl, hs_is_high⟩
theorem hs_is_kind_name {K : PySem.W.Frag} : H_is_kind_name (sy.W K) := ⟨by rfl, hs_is_high⟩
theorem hs_is_type {K : PySem.W.Frag} : H_is_type (sy.W K) := ⟨by rfl, hs_is_kind_name, hs_is_tuple⟩
theorem hs_is_maker {K : PySem.W.Frag} : H_is_maker (sy.W K) := ⟨by rfl, by rfl, by rfl, hs_is_free_name, hs_is_tuple, hs_is_type⟩
theorem hs_are_program_kinds {K : PySem.W.Frag} : H_are_program_kinds (sy.W K) := ⟨by rfl, by rfl, by rfl, hs_is_free_name, hs_is_maker, hs_is_tuple⟩
theorem hs_Meter_init {K : PySem.W.Frag} : H_Meter_init (sy.W K) := ⟨by rfl, by rfl, by rfl, by rfl⟩
theorem hs_Meter_take {K : PySem.W.Frag} : H_Meter_take (sy.W K) := ⟨by rfl, by rfl, by rfl⟩
theorem hs_is_expression {K : PySem.W.Frag} : H_is_expression (sy.W K) := ⟨by rfl, by rfl, by rfl, by rfl, by rfl, by rfl, by rfl, by rfl, by rfl, by rfl, hs_Meter_take, hs_is_free_name, hs_is_low, hs_is_tuple, hs_within⟩
theorem hs_is_def {K : PySem.W.Frag} : H_is_def (sy.W K) := ⟨by rfl, by rfl, by rfl, hs_Meter_init, hs_is_expression, hs_is_low, hs_is_tuple⟩
theorem hs_is_tree {K : PySem.W.Frag} : H_is_tree (sy.W K) := ⟨by rfl, by rfl, hs_are_program_kinds, hs_is_def, hs_is_tuple⟩
theorem hs_is_program {K : PySem.W.Frag} : H_is_program (sy.W K) := ⟨by rfl, hs_is_tree⟩
theorem hs__law_urn {K : PySem.W.Frag} : H__law_urn (sy.W K) := ⟨by rfl⟩
theorem hs__law_ball {K : PySem.W.Frag} : H__law_ball (sy.W K) := ⟨by rfl⟩
theorem hs__law_same {K : PySem.W.Frag} : H__law_same (sy.W K) := ⟨by rfl⟩
theorem hs__law_sort {K : PySem.W.Frag} : H__law_sort (sy.W K) := ⟨by rfl⟩
theorem hs__law_string {K : PySem.W.Frag} : H__law_string (sy.W K) := ⟨by rfl, hs__law_ball⟩
theorem hs__law_placed {K : PySem.W.Frag} : H__law_placed (sy.W K) := ⟨by rfl⟩
theorem hs_law {K : PySem.W.Frag} : H_law (sy.W K) := ⟨by rfl, hs__law_ball, hs__law_placed, hs__law_same, hs__law_sort, hs__law_string, hs__law_urn, hs_is_program⟩
theorem chk : chkAll sy.T sy.fb sy.tab = true := by kernel_rfl
end K11
namespace K11
open PySem PySem.Spec PyProof.Rows L2 Z
abbrev R : PySem.W.OpenRow := PySem.W.OpenLaw.row PySem.Challenge.rw_flatfuns_k11_names_of_each_sort
abbrev hk : PySem.W.Hook := hookZ 6 sy
def ob (s : PySem.W.SharedT) : AlZ := obsZG 6 sy (HandSHeadRun.getT s)
theorem ob_eq (s : PySem.W.SharedT) : ob s = hk.obs s.abs := obsZG_eq (HandSHeadRun.getT_eq s)
theorem run (w : World) : HandSHeadRun.RunEq R (PySem.W.view R.prog [lawTop]) hk ob 20000 names w := by
  intro os
  kernel_rfl
theorem law_ok (K : PySem.W.Frag) (ns : List Int) (h : ns.length ≤ 63) (hb : ∀ z ∈ ns, Builtin.Int.intBits z ≤ 1048576) : dcall (sy.W K) 100 lawId [.rl (ns.map D.int)] (fun _ => none) (fun v _ => v = .bl true) fun _ _ _ => False := law11 hs_law (by decide) h
end K11
open PySem PySem.W PySem.Calls PyProof.Rows
theorem PySem.Challenge.cw_flatfuns_k11_names_of_each_sort_holds : PySem.Challenge.rw_flatfuns_k11_names_of_each_sort.Holds := by
  w_on; o_law
  refine HandSHeadRun.head_any (r := K11.R) (q := view K11.R.prog [K11.lawTop]) (H := K11.hk) (ob := K11.ob) (M := 20000) (loose := K11.names) (d := HandSHeadRun.topDef K11.R.prog K11.lawTop) (kwd := []) K11.ob_eq
    (by kernel_rfl) (fun s => by kernel_rfl) K11.run (by kernel_rfl) (by kernel_rfl) (by kernel_rfl) (by rfl) (by first | assumption | decide +kernel) (by decide +kernel) ⟨rfl, rfl, rfl, rfl, rfl, by decide +kernel⟩ ?hw ?hc
  case hw => w_witness2
  case hc => exact Z.walk_z (l := PySem.Challenge.rw_flatfuns_k11_names_of_each_sort) (s := K11.sy) (n := 100) (f := K11.lawId) rfl (by kernel_rfl) ⟨rfl, by decide, by decide⟩ (fun w h y => y) K11.chk (by rfl) (by rfl) (by rfl) K11.law_ok
