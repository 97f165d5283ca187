import PyProof.Rows.All
import Wide.All
import OpenK.AllK
import Wide.FinOn
import HandS.ForMost
import HandS.Wide
import HandS.IsInst
import HandS.TupLe
import HandS.ExcCtx
import HandS.ExcIs
import HandS.ExcOwn
import HandS.WordsExc
import HandS.HotCalls
import HandS.TryOnly
import HandS.Deep
import HandS.TupSets
import HandS.SortRule
import HandS.SortInts
import HandS.TupAny
import HandS.Style
import HandS.Small
import HandS.Conv
import HandS.More
import KE.KDictSum
import KE.SortData
import HandS.DictEq
import PyProof.DictFindH
import PyProof.DictRoadsH
import HandS.Zip
import KE.KDictZip
import PyProof.ListNew
import PyProof.CollectWalk
import PyProof.AttrMiss
import KE.DataMinMax
import HandS.EndBits
import KE.DatumIndex
import KE.KStateDown
import HandS.Base
import HandS.Call
import HandS.Ends
import HandS.Exc
import HandS.Head0
import HandS.Head1
import HandS.Head2
import HandS.HeadHook1
import PySem.Challenge.RW_mixedmeets_k44_nought_refused
set_option Elab.async false
set_option linter.all false
set_option maxRecDepth 100000
set_option maxHeartbeats 4000000
/-! # Dv: Python data as trees, with lists that one name owns; what a body does, as a plain function of trees -/
namespace Dv
open PySem L2

inductive D where
  | non | bl (b : Bool) | int (i : Int) | str (x : Str) | lst (xs : List D) | tup (xs : List D) | scr (ns : List Int)
  /-- just this place: a refusal that is handled -/
  | adr (a : Addr)
  /-- a tuple that was made on the way: it can be a dict's key -/
  | nt (xs : List D)
  /-- a dict that stays: its keys (tuples of whole numbers), its things -/
  | dct (ks : List (List Int)) (xs : List D)

mutual
inductive Dq (K : PySem.W.Frag) (G : Hp) : V → D → Prop
  | non : Dq K G .non .non
  | bl (b : Bool) : Dq K G (.bl b) (.bl b)
  | int (i : Int) : Dq K G (.int i) (.int i)
  | str (x : Str) : Dq K G (.str x) (.str x)
  | lst {a : Addr} {xs : List V} {ds : List D} : G a = some (.lst xs) → DqA K G xs ds → Dq K G (.ref a) (.lst ds)
  | tup {a : Addr} {xs : List V} {ds : List D} : SqT K G a xs → DqA K G xs ds → Dq K G (.ref a) (.tup ds)
  | scr {a : Addr} {ns : List Int} : SqL K G a (ns.map V.int) → Dq K G (.ref a) (.scr ns)
  | adr (a : Addr) : Dq K G (.ref a) (.adr a)
  | nt {a : Addr} {xs : List V} {ds : List D} : G a = some (.tup xs) → DqA K G xs ds → Dq K G (.ref a) (.nt ds)
  | dct {a : Addr} {kl : List (List L2.Key × V)} {ks : List (List Int)} {ds : List D} : Rd G a (.dT kl) → kl.map (·.1) = ks.map (fun k => k.map Sum.inl) → DqA K G (kl.map (·.2)) ds → Dq K G (.ref a) (.dct ks ds)
inductive DqA (K : PySem.W.Frag) (G : Hp) : List V → List D → Prop
  | nil : DqA K G [] []
  | cons {v : V} {vs : List V} {d : D} {ds : List D} : Dq K G v d → DqA K G vs ds → DqA K G (v :: vs) (d :: ds)
end

section
variable {K : PySem.W.Frag} {G G' : Hp}
theorem rd_mono {a : Addr} {u : HO} (e : Same G G') (h : Rd G a u) : Rd G' a u := by
  rcases h with h | ⟨o, h⟩
  · exact .inl (e _ _ h)
  · exact .inr ⟨o, e _ _ h⟩
theorem sqT_mono {a : Addr} {xs : List V} (e : Same G G') (h : SqT K G a xs) : SqT K G' a xs := by
  rcases h with (h | ⟨o, h⟩) | h
  · exact .inl (.inl (e _ _ h))
  · exact .inl (.inr ⟨o, e _ _ h⟩)
  · exact .inr h
mutual
theorem Dq.mono (e : Same G G') : ∀ (d : D) (v : V), Dq K G v d → Dq K G' v d
  | .non, _, h => by cases h; exact .non
  | .bl b, _, h => by cases h; exact .bl b
  | .int i, _, h => by cases h; exact .int i
  | .str x, _, h => by cases h; exact .str x
  | .lst ds, _, h => by
    cases h with
    | lst h1 h2 => exact .lst (e _ _ h1) (DqA.mono e ds _ h2)
  | .tup ds, _, h => by
    cases h with
    | tup h1 h2 => exact .tup (sqT_mono e h1) (DqA.mono e ds _ h2)
  | .scr ns, _, h => by
    cases h with
    | scr h1 => exact .scr (e.seq h1)
  | .adr a, _, h => by cases h; exact .adr a
  | .nt ds, _, h => by
    cases h with
    | nt h1 h2 => exact .nt (e _ _ h1) (DqA.mono e ds _ h2)
  | .dct ks ds, _, h => by
    cases h with
    | dct h1 h2 h3 => exact .dct (rd_mono e h1) h2 (DqA.mono e ds _ h3)
theorem DqA.mono (e : Same G G') : ∀ (ds : List D) (vs : List V), DqA K G vs ds → DqA K G' vs ds
  | [], _, h => by cases h; exact .nil
  | d :: ds, _, h => by
    cases h with
    | cons h1 h2 => exact .cons (Dq.mono e d _ h1) (DqA.mono e ds _ h2)
end
theorem DqA.length : ∀ {vs : List V} {ds : List D}, DqA K G vs ds → vs.length = ds.length
  | [], _, h => by cases h; rfl
  | v :: vs, _, h => by
    cases h with
    | cons h1 h2 => simp [DqA.length h2]
theorem DqA.get : ∀ {vs : List V} {ds : List D} {i : Nat} {d : D}, DqA K G vs ds → ds[i]? = some d → ∃ v, vs[i]? = some v ∧ Dq K G v d
  | [], _, _, _, h, e => by cases h; simp at e
  | v :: vs, _, i, d, h, e => by
    cases h with
    | cons h1 h2 =>
      cases i with
      | zero => simp at e; subst e; exact ⟨v, rfl, h1⟩
      | succ i =>
        obtain ⟨w, a, b⟩ := DqA.get (i := i) (d := d) h2 (by simpa using e)
        exact ⟨w, by simpa using a, b⟩
theorem DqA.getV : ∀ {vs : List V} {ds : List D} {i : Nat} {v : V}, DqA K G vs ds → vs[i]? = some v → ∃ d, ds[i]? = some d ∧ Dq K G v d
  | [], _, _, _, h, e => by simp at e
  | v :: vs, _, i, d, h, e => by
    cases h with
    | cons h1 h2 =>
      cases i with
      | zero => simp at e; subst e; exact ⟨_, rfl, h1⟩
      | succ i =>
        obtain ⟨w, a, b⟩ := DqA.getV (i := i) h2 (by simpa using e)
        exact ⟨w, by simpa using a, b⟩
theorem DqA.append : ∀ {vs ws : List V} {ds es : List D}, DqA K G vs ds → DqA K G ws es → DqA K G (vs ++ ws) (ds ++ es)
  | [], _, _, _, h, k => by cases h; exact k
  | v :: vs, _, _, _, h, k => by
    cases h with
    | cons h1 h2 => exact .cons h1 (DqA.append h2 k)
theorem DqA.take : ∀ (n : Nat) {vs : List V} {ds : List D}, DqA K G vs ds → DqA K G (vs.take n) (ds.take n)
  | 0, _, _, _ => by simp; exact .nil
  | n + 1, [], _, h => by cases h; exact .nil
  | n + 1, v :: vs, _, h => by
    cases h with
    | cons h1 h2 => exact .cons h1 (DqA.take n h2)
theorem DqA.drop : ∀ (n : Nat) {vs : List V} {ds : List D}, DqA K G vs ds → DqA K G (vs.drop n) (ds.drop n)
  | 0, _, _, h => by simpa using h
  | n + 1, [], _, h => by cases h; exact .nil
  | n + 1, v :: vs, _, h => by
    cases h with
    | cons h1 h2 => simpa using DqA.drop n h2
theorem DqA.set : ∀ (n : Nat) {vs : List V} {ds : List D} {v : V} {d : D}, DqA K G vs ds → Dq K G v d → DqA K G (vs.set n v) (ds.set n d)
  | _, [], _, _, _, h, _ => by cases h; exact .nil
  | 0, v :: vs, _, _, _, h, k => by
    cases h with
    | cons h1 h2 => exact .cons k h2
  | n + 1, v :: vs, _, _, _, h, k => by
    cases h with
    | cons h1 h2 => exact .cons h1 (DqA.set n h2 k)
theorem DqA.reverse : ∀ {vs : List V} {ds : List D}, DqA K G vs ds → DqA K G vs.reverse ds.reverse
  | [], _, h => by cases h; exact .nil
  | v :: vs, _, h => by
    cases h with
    | cons h1 h2 =>
      rw [List.reverse_cons, List.reverse_cons]
      exact DqA.append (DqA.reverse h2) (.cons h1 .nil)
theorem DqA.ints : ∀ (ns : List Int), DqA K G (ns.map V.int) (ns.map D.int)
  | [] => .nil
  | n :: ns => .cons (.int n) (DqA.ints ns)
theorem DqA.isInts : ∀ {vs : List V} {ns : List Int}, DqA K G vs (ns.map D.int) → vs = ns.map V.int
  | [], [], _ => rfl
  | [], n :: ns, h => by cases h
  | v :: vs, [], h => by cases h
  | v :: vs, n :: ns, h => by
    cases h with
    | cons h1 h2 =>
      cases h1
      rw [DqA.isInts h2]
      rfl
theorem DqA.bls : ∀ (ns : List Bool), DqA K G (ns.map V.bl) (ns.map D.bl)
  | [] => .nil
  | n :: ns => .cons (.bl n) (DqA.bls ns)
theorem DqA.isBls : ∀ {vs : List V} {ns : List Bool}, DqA K G vs (ns.map D.bl) → vs = ns.map V.bl
  | [], [], _ => rfl
  | [], n :: ns, h => by cases h
  | v :: vs, [], h => by cases h
  | v :: vs, n :: ns, h => by
    cases h with
    | cons h1 h2 =>
      cases h1
      rw [DqA.isBls h2]
      rfl
end

/-! ### a heap without some places -/
def mi (H : Hp) (O : List Addr) : Hp := fun a => if a ∈ O then none else H a
section
variable {H H' : Hp} {O O' : List Addr} {p : Addr} {o : HO}
theorem mi_in (h : p ∈ O) : mi H O p = none := if_pos h
theorem mi_out (h : p ∉ O) : mi H O p = H p := if_neg h
theorem mi_some {a : Addr} (h : mi H O a = some o) : a ∉ O ∧ H a = some o := by
  unfold mi at h
  split at h
  · cases h
  · exact ⟨by assumption, h⟩
theorem mi_of {a : Addr} (h : a ∉ O) (e : H a = some o) : mi H O a = some o := by rw [mi_out h]; exact e
theorem mi_same : Same (mi H O) H := fun a o h => (mi_some h).2
theorem mi_mono (e : Same H H') : Same (mi H O) (mi H' O) := fun a o h => by
  obtain ⟨h1, h2⟩ := mi_some h
  exact mi_of h1 (e _ _ h2)
theorem mi_sub (s : ∀ a, a ∈ O → a ∈ O') : Same (mi H O') (mi H O) := fun a o h => by
  obtain ⟨h1, h2⟩ := mi_some h
  exact mi_of (fun z => h1 (s a z)) h2
theorem mi_upd_in (h : p ∈ O) : mi (upd H p o) O = mi H O := by
  funext a
  unfold mi
  split
  · rfl
  · rw [upd_ne]
    intro e
    subst e
    contradiction
theorem same_new (h : H p = none) : Same H (upd H p o) := fun a u e => by
  rw [upd_ne (ne_of_none e h)]
  exact e
theorem mi_one_new (h : H p = none) : mi (upd H p o) [p] = H := by
  funext a
  unfold mi
  by_cases e : a = p
  · subst e
    rw [if_pos (List.mem_singleton.mpr rfl), h]
  · rw [if_neg (fun z => e (List.mem_singleton.mp z)), upd_ne e]
end

/-! ### what a name holds, what an expression gives -/
/-- own things: a dict whose keys are tuples of ints; a list of own lists -/
inductive OV where
  | dct (kvs : List (List Int × D)) | ls2 (dss : List (List D))
  /-- a dict whose keys are whole numbers -/
  | dcI (kvs : List (Int × D))
def DqK (K : PySem.W.Frag) (G : Hp) : List (List L2.Key × V) → List (List Int × D) → Prop
  | [], [] => True
  | p :: r, q :: s => p.1 = q.1.map Sum.inl ∧ Dq K G p.2 q.2 ∧ DqK K G r s
  | _, _ => False
def DqI (K : PySem.W.Frag) (G : Hp) : List (L2.Key × V) → List (Int × D) → Prop
  | [], [] => True
  | p :: r, q :: s => p.1 = Sum.inl q.1 ∧ Dq K G p.2 q.2 ∧ DqI K G r s
  | _, _ => False
def LsOk (K : PySem.W.Frag) (G H : Hp) : List Addr → List (List D) → Prop
  | [], [] => True
  | q :: qs, ds :: dss => (∃ xs, H q = some (.lst xs) ∧ DqA K G xs ds) ∧ LsOk K G H qs dss
  | _, _ => False
def refV : V → Option Addr
  | .ref a => some a
  | _ => none
/-- the places that an own thing is made of -/
def adsOf (H : Hp) (p : Addr) : OV → List Addr
  | .dct _ => [p]
  | .dcI _ => [p]
  | .ls2 _ => match H p with
    | some (.lst xs) => p :: xs.filterMap refV
    | _ => [p]
def Real (K : PySem.W.Frag) (G H : Hp) (p : Addr) : OV → Prop
  | .dct kvs => ∃ ks, H p = some (.dT ks) ∧ DqK K G ks kvs
  | .ls2 dss => ∃ qs, H p = some (.lst (qs.map V.ref)) ∧ LsOk K G H qs dss
  | .dcI kvs => ∃ ks, H p = some (.dK ks) ∧ DqI K G ks kvs
theorem DqK.mono {K : PySem.W.Frag} {G G' : Hp} (e : Same G G') : ∀ {ks : List (List L2.Key × V)} {kvs : List (List Int × D)}, DqK K G ks kvs → DqK K G' ks kvs
  | [], [], _ => trivial
  | [], _ :: _, h => h.elim
  | _ :: _, [], h => h.elim
  | _ :: _, _ :: _, h => ⟨h.1, Dq.mono e _ _ h.2.1, DqK.mono e h.2.2⟩
theorem DqI.mono {K : PySem.W.Frag} {G G' : Hp} (e : Same G G') : ∀ {ks : List (L2.Key × V)} {kvs : List (Int × D)}, DqI K G ks kvs → DqI K G' ks kvs
  | [], [], _ => trivial
  | [], _ :: _, h => h.elim
  | _ :: _, [], h => h.elim
  | _ :: _, _ :: _, h => ⟨h.1, Dq.mono e _ _ h.2.1, DqI.mono e h.2.2⟩
theorem LsOk.mono {K : PySem.W.Frag} {G G' H H' : Hp} (e : Same G G') : ∀ {qs : List Addr} {dss : List (List D)}, (∀ q, q ∈ qs → H' q = H q) → LsOk K G H qs dss → LsOk K G' H' qs dss
  | [], [], _, _ => trivial
  | [], _ :: _, _, h => h.elim
  | _ :: _, [], _, h => h.elim
  | q :: _, _ :: _, k, h => by
    obtain ⟨⟨xs, h1, h2⟩, h3⟩ := h
    exact ⟨⟨xs, by rw [k q List.mem_cons_self]; exact h1, DqA.mono e _ _ h2⟩, LsOk.mono e (fun q' hq => k q' (List.mem_cons_of_mem _ hq)) h3⟩
theorem refV_map : ∀ qs : List Addr, (qs.map V.ref).filterMap refV = qs
  | [] => rfl
  | q :: qs => by
    show q :: (qs.map V.ref).filterMap refV = _
    rw [refV_map qs]
theorem adsOf_self {H : Hp} {p : Addr} {w : OV} : p ∈ adsOf H p w := by
  cases w with
  | ls2 dss =>
    unfold adsOf
    split
    · exact List.mem_cons_self
    · rename_i h
      first | contradiction | exact List.mem_cons_self | (split <;> exact List.mem_cons_self)
    all_goals (split <;> exact List.mem_cons_self)
  | dct kvs => exact List.mem_cons_self
  | dcI kvs => exact List.mem_cons_self
theorem adsOf_eq {H H' : Hp} {p : Addr} {w : OV} (h : H' p = H p) : adsOf H' p w = adsOf H p w := by
  unfold adsOf
  rw [h]
theorem Real.mono {K : PySem.W.Frag} {G G' H H' : Hp} {p : Addr} {w : OV} (e : Same G G') (k : ∀ a, a ∈ adsOf H p w → H' a = H a) (h : Real K G H p w) : Real K G' H' p w := by
  have k0 := k p adsOf_self
  cases w with
  | dct kvs =>
    obtain ⟨ks, h1, h2⟩ := h
    exact ⟨ks, by rw [k0]; exact h1, h2.mono e⟩
  | dcI kvs =>
    obtain ⟨ks, h1, h2⟩ := h
    exact ⟨ks, by rw [k0]; exact h1, h2.mono e⟩
  | ls2 dss =>
    obtain ⟨qs, h1, h2⟩ := h
    refine ⟨qs, by rw [k0]; exact h1, h2.mono e fun q hq => k q ?_⟩
    unfold adsOf
    rw [h1]
    show q ∈ p :: (qs.map V.ref).filterMap refV
    rw [refV_map]
    exact List.mem_cons_of_mem _ hq
inductive SV where
  /-- nothing known | a thing that stays | an own list | an own list of the caller -/
  | no | fz (d : D) | o1 (ds : List D) | io (ds : List D)
  /-- an own thing of another make -/
  | nw (w : OV)
inductive RV where
  /-- a thing that stays | what the i-th name owns | a new list that nobody has yet -/
  | val (d : D) | slot (i : Nat) | new (ds : List D)
  /-- no thing: a refusal, by its number -/
  | ex (n : Nat)
  /-- a new tuple of new lists -/
  | tw (dss : List (List D))
abbrev Env := List SV
def OwnAt (env : Env) (i : Nat) (ds : List D) : Prop := env[i]? = some (.o1 ds) ∨ env[i]? = some (.io ds)

/-- the own things of other makes -/
def NwOk (K : PySem.W.Frag) (B : Hp) (O : List Addr) (σ : L2.St) (H : Hp) (env : Env) : Prop := ∀ (i : Nat) (w : OV), env[i]? = some (SV.nw w) → ∃ p, σ[i]? = some (some (.ref p)) ∧ Real K (mi H O) H p w ∧ (adsOf H p w).Nodup ∧
  (∀ a, a ∈ adsOf H p w → a ∈ O ∧ B a = none) ∧ (∀ (j : Nat) (ds : List D) (a : Addr), OwnAt env j ds → σ[j]? = some (some (.ref a)) → a ∉ adsOf H p w) ∧
  ∀ (j : Nat) (w' : OV) (q : Addr), j ≠ i → env[j]? = some (SV.nw w') → σ[j]? = some (some (.ref q)) → ∀ a, a ∈ adsOf H p w → a ∉ adsOf H q w'
theorem NwOk.go {K : PySem.W.Frag} {B B' : Hp} {O O' : List Addr} {σ σ' : L2.St} {H H' : Hp} {env env' : Env} (h : NwOk K B O σ H env)
    (sl : ∀ (i : Nat) (w : OV), env'[i]? = some (SV.nw w) → env[i]? = some (SV.nw w) ∧ σ'[i]? = σ[i]?)
    (ol : ∀ (j : Nat) (ds : List D) (a : Addr), OwnAt env' j ds → σ'[j]? = some (some (.ref a)) → (∃ ds', OwnAt env j ds' ∧ σ[j]? = some (some (.ref a))) ∨ a ∉ O)
    (hp : ∀ a, a ∈ O → B a = none → (∃ o, H a = some o) → (∀ (j : Nat) (ds : List D), OwnAt env j ds → σ[j]? ≠ some (some (.ref a))) → a ∈ O' ∧ B' a = none ∧ H' a = H a)
    (sm : Same (mi H O) (mi H' O')) (dom : ∀ a, a ∈ O → ∃ o, H a = some o) : NwOk K B' O' σ' H' env' := by
  intro i w hi
  obtain ⟨h1, h2⟩ := sl i w hi
  obtain ⟨p, a1, a2, a3, a4, a5, a6⟩ := h i w h1
  have on : ∀ a, a ∈ adsOf H p w → a ∈ O' ∧ B' a = none ∧ H' a = H a := fun a ha => hp a (a4 a ha).1 (a4 a ha).2 (dom a (a4 a ha).1) fun j ds hj e => a5 j ds a hj e ha
  have e0 : adsOf H' p w = adsOf H p w := adsOf_eq (on p adsOf_self).2.2
  refine ⟨p, by rw [h2]; exact a1, a2.mono sm fun a ha => (on a ha).2.2, by rw [e0]; exact a3, fun a ha => ?_, fun j ds a hj e => ?_, fun j w' q hj hw e a ha => ?_⟩
  · rw [e0] at ha
    exact ⟨(on a ha).1, (on a ha).2.1⟩
  · rw [e0]
    rcases ol j ds a hj e with ⟨ds', k1, k2⟩ | k
    · exact a5 j ds' a k1 k2
    · exact fun z => k (a4 a z).1
  · rw [e0] at ha
    obtain ⟨c1, c2⟩ := sl j w' hw
    rw [c2] at e
    obtain ⟨q', b1, _, _, b4, b5, _⟩ := h j w' c1
    rw [e] at b1
    cases b1
    have e1 : adsOf H' q w' = adsOf H q w' := adsOf_eq (hp q (b4 q adsOf_self).1 (b4 q adsOf_self).2 (dom q (b4 q adsOf_self).1) fun j ds hj e => b5 j ds q hj e adsOf_self).2.2
    rw [e1]
    exact a6 j w' q hj c1 e a ha
theorem NwOk.none {K : PySem.W.Frag} {B : Hp} {O : List Addr} {σ : L2.St} {H : Hp} {env : Env} (h : ∀ (i : Nat) (w : OV), env[i]? ≠ some (SV.nw w)) : NwOk K B O σ H env := fun i w hi => absurd hi (h i w)
structure Sta (K : PySem.W.Frag) (B : Hp) (O : List Addr) (I : List (Nat × Addr)) (σ : L2.St) (H : Hp) (env : Env) : Prop where
  len : σ.length = env.length
  fz : ∀ (i : Nat) (d : D), env[i]? = some (SV.fz d) → ∃ v, σ[i]? = some (some v) ∧ Dq K (mi H O) v d
  ow : ∀ (i : Nat) (ds : List D), OwnAt env i ds → ∃ p xs, σ[i]? = some (some (.ref p)) ∧ p ∈ O ∧ H p = some (.lst xs) ∧ DqA K (mi H O) xs ds ∧ B p = none
  sep : ∀ (i j : Nat) (ds es : List D) (p : Addr), OwnAt env i ds → OwnAt env j es → σ[i]? = some (some (.ref p)) → σ[j]? = some (some (.ref p)) → i = j
  base : Same B H
  dom : ∀ p, p ∈ O → ∃ o, H p = some o
  pin : ∀ (j : Nat) (p : Addr), (j, p) ∈ I → σ[j]? = some (some (.ref p)) ∧ ∃ ds, env[j]? = some (SV.io ds)
  nw : NwOk K B O σ H env
  /-- no tuple is owned -/
  nt : ∀ (p : Addr) (xs : List V), p ∈ O → H p ≠ some (.tup xs)
theorem Sta.ntS {K : PySem.W.Frag} {B : Hp} {O : List Addr} {I : List (Nat × Addr)} {σ : L2.St} {H H' : Hp} {env : Env} (S : Sta K B O I σ H env) {p : Addr} (hp : p ∈ O) (h : ∀ o, H p = some o → H' p = some o) (xs : List V) : H' p ≠ some (.tup xs) := fun z => by
  obtain ⟨o, e⟩ := S.dom p hp
  have := h o e
  rw [z] at this
  cases this
  exact S.nt p xs hp e

def Post (K : PySem.W.Frag) (B : Hp) (O : List Addr) (I : List (Nat × Addr)) (σ : L2.St) (H : Hp) (env : Env) (v : V) : RV → Prop
  | .val d => Sta K B O I σ H env ∧ Dq K (mi H O) v d
  | .slot i => Sta K B O I σ H env ∧ σ[i]? = some (some v)
  | .new ds => ∃ p xs, v = .ref p ∧ H p = some (.lst xs) ∧ B p = none ∧ p ∉ O ∧ Sta K B O I σ (mi H [p]) env ∧ DqA K (mi (mi H [p]) O) xs ds
  | .ex _ => False
  | .tw dss => ∃ p qs, v = .ref p ∧ H p = some (.tup (qs.map V.ref)) ∧ qs.Nodup ∧ (∀ q, q ∈ qs → B q = none ∧ q ∉ O) ∧ Sta K B O I σ (mi H qs) env ∧ LsOk K (mi H (qs ++ O)) H qs dss

def deref (env : Env) : RV → Option D
  | .val d => some d
  | .new ds => some (.lst ds)
  | .slot i => match env[i]? with
    | some (.o1 ds) => some (.lst ds)
    | some (.io ds) => some (.lst ds)
    | _ => none
  | .ex _ => none
  | .tw dss => some (.tup (dss.map D.lst))
def frz : RV → RV
  | .new ds => .val (.lst ds)
  | .tw dss => .val (.tup (dss.map D.lst))
  | .val d => .val d
  | .slot i => .slot i
  | .ex n => .ex n
theorem LsOk.domA {K : PySem.W.Frag} {G H : Hp} : ∀ {qs : List Addr} {dss : List (List D)}, LsOk K G H qs dss → ∀ q, q ∈ qs → ∃ xs, H q = some (.lst xs)
  | [], [], _, q, hq => by cases hq
  | [], _ :: _, h, _, _ => h.elim
  | _ :: _, [], h, _, _ => h.elim
  | a :: qs, ds :: dss, h, q, hq => by
    obtain ⟨⟨xs, h1, _⟩, h2⟩ := h
    rcases List.mem_cons.mp hq with z | z
    · rw [z]
      exact ⟨xs, h1⟩
    · exact LsOk.domA h2 q z
theorem LsOk.dqa2 {K : PySem.W.Frag} {H : Hp} {X O : List Addr} (hs : ∀ a, a ∈ O → a ∈ X) : ∀ {qs : List Addr} {dss : List (List D)}, (∀ q, q ∈ qs → q ∉ O) → LsOk K (mi H X) H qs dss → DqA K (mi H O) (qs.map V.ref) (dss.map D.lst)
  | [], [], _, _ => .nil
  | [], _ :: _, _, k => k.elim
  | _ :: _, [], _, k => k.elim
  | q :: qs, ds :: dss, hq, k => by
    obtain ⟨⟨xs, h1, h2⟩, h3⟩ := k
    exact .cons (.lst (mi_of (hq q List.mem_cons_self) h1) (DqA.mono (mi_sub hs) _ _ h2)) (LsOk.dqa2 hs (fun a ha => hq a (List.mem_cons_of_mem _ ha)) h3)

section
variable {K : PySem.W.Frag} {B B' : Hp} {O O' : List Addr} {I : List (Nat × Addr)} {σ : L2.St} {H H' : Hp} {env : Env} {v : V}
theorem Sta.weak (S : Sta K B' O I σ H env) (e : Same B B') : Sta K B O I σ H env :=
  ⟨S.len, S.fz, fun i ds h => by
    obtain ⟨p, xs, h1, h2, h3, h4, h5⟩ := S.ow i ds h
    exact ⟨p, xs, h1, h2, h3, h4, e.free h5⟩, S.sep, e.trans S.base, S.dom, S.pin, NwOk.go S.nw (fun _ _ h => ⟨h, rfl⟩) (fun j ds a h e => .inl ⟨ds, h, e⟩) (fun a h1 h2 _ _ => ⟨h1, e.free h2, rfl⟩) (Same.refl _) S.dom, S.nt⟩
/-- all that stood stands -/
theorem Sta.grow (S : Sta K B O I σ H env) (e : Same H H') : Sta K B O I σ H' env :=
  ⟨S.len, fun i d h => by
    obtain ⟨v, h1, h2⟩ := S.fz i d h
    exact ⟨v, h1, Dq.mono (mi_mono e) _ _ h2⟩, fun i ds h => by
    obtain ⟨p, xs, h1, h2, h3, h4, h5⟩ := S.ow i ds h
    exact ⟨p, xs, h1, h2, e _ _ h3, DqA.mono (mi_mono e) _ _ h4, h5⟩, S.sep, S.base.trans e, fun p hp => by
    obtain ⟨o, h⟩ := S.dom p hp
    exact ⟨o, e _ _ h⟩, S.pin, NwOk.go S.nw (fun _ _ h => ⟨h, rfl⟩) (fun j ds a h e => .inl ⟨ds, h, e⟩) (fun a h1 h2 ⟨o, h3⟩ _ => ⟨h1, h2, by rw [h3]; exact e _ _ h3⟩) (mi_mono e) S.dom, fun p xs hp => S.ntS hp (fun o => e _ _) xs⟩
/-- what is neither owned nor will change: H without what names own -/
def Owns (σ : L2.St) (env : Env) (H : Hp) (a : Addr) : Prop := (∃ i ds, OwnAt env i ds ∧ σ[i]? = some (some (.ref a))) ∨ ∃ (i : Nat) (w : OV) (p : Addr), env[i]? = some (SV.nw w) ∧ σ[i]? = some (some (.ref p)) ∧ a ∈ adsOf H p w
open Classical in
noncomputable def keepH (σ : L2.St) (env : Env) (H : Hp) : Hp := fun a => if Owns σ env H a then none else H a
theorem keepH_own {a : Addr} (h : Owns σ env H a) : keepH σ env H a = none := if_pos h
theorem keepH_not {a : Addr} (h : ¬ Owns σ env H a) : keepH σ env H a = H a := if_neg h
theorem keepH_same : Same (keepH σ env H) H := fun a o h => by
  unfold keepH at h
  split at h
  · cases h
  · exact h
theorem Sta.strong (S : Sta K B O I σ H env) : Sta K (keepH σ env H) O I σ H env :=
  ⟨S.len, S.fz, fun i ds h => by
    obtain ⟨p, xs, h1, h2, h3, h4, h5⟩ := S.ow i ds h
    exact ⟨p, xs, h1, h2, h3, h4, keepH_own (.inl ⟨i, ds, h, h1⟩)⟩, S.sep, keepH_same, S.dom, S.pin, fun i w hi => by
    obtain ⟨p, a1, a2, a3, a4, a5⟩ := S.nw i w hi
    exact ⟨p, a1, a2, a3, fun a ha => ⟨(a4 a ha).1, keepH_own (.inr ⟨i, w, p, hi, a1, ha⟩)⟩, a5⟩, S.nt⟩
theorem Sta.owns_free (S : Sta K B O I σ H env) {a : Addr} (h : Owns σ env H a) : a ∈ O ∧ B a = none := by
  rcases h with ⟨i, ds, h1, h2⟩ | ⟨i, w, q, h1, h2, h3⟩
  · obtain ⟨p, xs, k1, k2, k3, k4, k5⟩ := S.ow i ds h1
    rw [h2] at k1
    cases k1
    exact ⟨k2, k5⟩
  · obtain ⟨p, a1, _, _, a4, _⟩ := S.nw i w h1
    rw [h2] at a1
    cases a1
    exact a4 a h3
theorem Sta.base_keep (S : Sta K B O I σ H env) : Same B (keepH σ env H) := fun a o h => by
  rw [keepH_not]
  · exact S.base _ _ h
  · intro z
    have k5 := (S.owns_free z).2
    rw [h] at k5
    cases k5
theorem Sta.owns_in (S : Sta K B O I σ H env) {a : Addr} (h : Owns σ env H a) : a ∈ O := (S.owns_free h).1
/-- what stays, stays -/
theorem Sta.stay (S : Sta K B O I σ H env) {env' : Env} (S' : Sta K (keepH σ env H) O I σ H' env') : Same (mi H O) (mi H' O) := fun a o h => by
  obtain ⟨h1, h2⟩ := mi_some h
  refine mi_of h1 (S'.base a o ?_)
  rw [keepH_not (fun z => h1 (S.owns_in z))]
  exact h2
theorem Sta.full (S : Sta K B O I σ H env) {d : D} (h : Dq K (mi H O) v d) : Dq K H v d := Dq.mono mi_same _ _ h
/-- an own list, by its name -/
theorem Sta.own (S : Sta K B O I σ H env) {i : Nat} {ds : List D} (h : OwnAt env i ds) (hv : σ[i]? = some (some v)) :
    ∃ p xs, v = .ref p ∧ p ∈ O ∧ H p = some (.lst xs) ∧ DqA K (mi H O) xs ds ∧ B p = none := by
  obtain ⟨p, xs, h1, h2, h3, h4, h5⟩ := S.ow i ds h
  rw [hv] at h1
  cases h1
  exact ⟨p, xs, rfl, h2, h3, h4, h5⟩
theorem ownAt_of {i : Nat} {d : D} (h : deref env (.slot i) = some d) : ∃ ds, d = .lst ds ∧ OwnAt env i ds := by
  unfold deref at h
  dsimp only at h
  split at h
  · cases h; exact ⟨_, rfl, .inl (by assumption)⟩
  · cases h; exact ⟨_, rfl, .inr (by assumption)⟩
  · cases h
/-- a new list is let go: it stays from now on -/
theorem Post.frz {r : RV} (h : Post K B O I σ H env v r) : Post K B O I σ H env v (frz r) := by
  cases r with
  | ex n => exact False.elim h
  | val d => exact h
  | slot i => exact h
  | new ds =>
    obtain ⟨p, xs, rfl, h1, h2, h3, S, h4⟩ := h
    have e : Same (mi H [p]) H := mi_same
    refine ⟨S.grow e, .lst (mi_of h3 h1) (DqA.mono (mi_mono e) _ _ h4)⟩
  | tw dss =>
    obtain ⟨p, qs, rfl, h1, h2, h3, S, h4⟩ := h
    have pq : p ∉ qs := fun z => by
      obtain ⟨xs, e⟩ := LsOk.domA h4 p z
      rw [e] at h1
      cases h1
    have pO : p ∉ O := fun z => S.nt p _ z (mi_of pq h1)
    exact ⟨S.grow mi_same, .tup (.inl (.inl (mi_of pO h1))) (LsOk.dqa2 (fun a ha => List.mem_append_right _ ha) (fun q hq => (h3 q hq).2) h4)⟩
theorem Post.sta {r : RV} (h : Post K B O I σ H env v r) : Sta K B O I σ H env := by
  have := h.frz
  cases r with
  | ex n => exact False.elim h
  | val d => exact h.1
  | slot i => exact h.1
  | new ds => exact this.1
  | tw dss => exact this.1
/-- what is read of a value: the whole thing in the heap as it stands -/
theorem Post.read {r : RV} {d : D} (h : Post K B O I σ H env v r) (e : deref env r = some d) : Dq K H v d := by
  cases r with
  | ex n => exact False.elim h
  | val d' => cases e; exact h.1.full h.2
  | slot i =>
    obtain ⟨ds, rfl, ho⟩ := ownAt_of e
    obtain ⟨p, xs, rfl, _, h3, h4, _⟩ := h.1.own ho h.2
    exact .lst h3 (DqA.mono mi_same _ _ h4)
  | new ds =>
    cases e
    have := h.frz
    exact this.1.full this.2
  | tw dss =>
    cases e
    have := h.frz
    exact this.1.full this.2
/-- a list's items stay -/
theorem Post.items {r : RV} {ds : List D} (h : Post K B O I σ H env v r) (e : deref env r = some (.lst ds)) : ∃ p xs, v = .ref p ∧ H p = some (.lst xs) ∧ DqA K (mi H O) xs ds := by
  cases r with
  | ex n => exact False.elim h
  | val d' =>
    cases e
    obtain ⟨S, h⟩ := h
    cases h with
    | lst h1 h2 => exact ⟨_, _, rfl, (mi_some h1).2, h2⟩
  | slot i =>
    obtain ⟨es, e1, ho⟩ := ownAt_of e
    cases e1
    obtain ⟨p, xs, rfl, _, h3, h4, _⟩ := h.1.own ho h.2
    exact ⟨p, xs, rfl, h3, h4⟩
  | new es =>
    cases e
    obtain ⟨p, xs, rfl, h1, h2, h3, S, h4⟩ := h
    exact ⟨p, xs, rfl, h1, DqA.mono (mi_mono mi_same) _ _ h4⟩
  | tw dss => cases e
theorem Post.tuple {r : RV} {ds : List D} (h : Post K B O I σ H env v r) (e : deref env r = some (.tup ds)) : ∃ p xs, v = .ref p ∧ SqT K H p xs ∧ DqA K (mi H O) xs ds := by
  cases r with
  | ex n => exact False.elim h
  | val d' =>
    cases e
    obtain ⟨S, h⟩ := h
    cases h with
    | tup h1 h2 => exact ⟨_, _, rfl, sqT_mono mi_same h1, h2⟩
  | slot i =>
    obtain ⟨es, e1, ho⟩ := ownAt_of e
    cases e1
  | new es => cases e
  | tw dss =>
    cases e
    have h' : Post K B O I σ H env v (.val (.tup (dss.map D.lst))) := h.frz
    obtain ⟨S, h'⟩ := h'
    cases h' with
    | tup h1 h2 => exact ⟨_, _, rfl, sqT_mono mi_same h1, h2⟩
theorem Post.ntup {r : RV} {ds : List D} (h : Post K B O I σ H env v r) (e : deref env r = some (.nt ds)) : ∃ p xs, v = .ref p ∧ SqT K H p xs ∧ DqA K (mi H O) xs ds := by
  cases r with
  | ex n => exact False.elim h
  | val d' =>
    cases e
    obtain ⟨S, h⟩ := h
    cases h with
    | nt h1 h2 => exact ⟨_, _, rfl, .inl (.inl (mi_some h1).2), h2⟩
  | slot i =>
    obtain ⟨es, e1, ho⟩ := ownAt_of e
    cases e1
  | new es => cases e
  | tw dss => cases e
/-- a value that stays beside what comes later -/
theorem Post.later {r : RV} {env' : Env} (h : Post K B O I σ H env v (Dv.frz r)) (S' : Sta K (keepH σ env H) O I σ H' env') : Post K B O I σ H' env' v (Dv.frz r) := by
  have Sb : Sta K B O I σ H' env' := S'.weak h.sta.base_keep
  cases r with
  | ex n => exact False.elim h
  | val d => exact ⟨Sb, Dq.mono (h.1.stay S') _ _ h.2⟩
  | slot i => exact ⟨Sb, h.2⟩
  | new ds => exact ⟨Sb, Dq.mono (h.1.stay S') _ _ h.2⟩
  | tw dss => exact ⟨Sb, Dq.mono (h.1.stay S') _ _ h.2⟩
end

/-! ### readings and plain functions -/
abbrev EF := Env → Option (RV × Env)
def Snd (K : PySem.W.Frag) (t : TE) (f : EF) : Prop := ∀ B O I σ H env rv env', Sta K B O I σ H env → f env = some (rv, env') →
  ∀ Q : VK, (∀ v H', Post K B O I σ H' env' v rv → Q v H') → t σ H Q
abbrev TF := Env → Option (Bool × Env)
def SndT (K : PySem.W.Frag) (t : TT) (f : TF) : Prop := ∀ B O I σ H env b env', Sta K B O I σ H env → f env = some (b, env') →
  ∀ Q : Bool → Hp → Prop, (∀ H', Sta K B O I σ H' env' → Q b H') → t σ H Q
abbrev AF := Env → Option (List RV × Env)
/-- arguments: each stays while the next is asked for -/
inductive PostA (K : PySem.W.Frag) (B : Hp) (O : List Addr) (I : List (Nat × Addr)) (σ : L2.St) (H : Hp) (env : Env) : List V → List RV → Prop
  | nil : PostA K B O I σ H env [] []
  | cons {v : V} {r : RV} {vs : List V} {rs : List RV} : Post K B O I σ H env v (frz r) → PostA K B O I σ H env vs rs → PostA K B O I σ H env (v :: vs) (frz r :: rs)
def SndA (K : PySem.W.Frag) (t : TA) (f : AF) : Prop := ∀ B O I σ H env rs env', Sta K B O I σ H env → f env = some (rs, env') →
  ∀ Q : List V → Hp → Prop, (∀ vs H', Sta K B O I σ H' env' → PostA K B O I σ H' env' vs rs → Q vs H') → t σ H Q

def fVar (i : Nat) : EF := fun env => match env[i]? with
  | some (.fz d) => some (.val d, env)
  | some (.o1 _) => some (.slot i, env)
  | some (.io _) => some (.slot i, env)
  | _ => none
def fC (d : D) : EF := fun env => some (.val d, env)
def fNil : AF := fun env => some ([], env)
def fCons (fa : EF) (fr : AF) : AF := fun env => do
  let (r, e1) ← fa env
  let (rs, e2) ← fr e1
  some (frz r :: rs, e2)

section
variable {K : PySem.W.Frag} {t ta tb : TE} {f fa fb : EF}
theorem snd_var (i : Nat) : Snd K (tVar i) (fVar i) := by
  intro B O I σ H env rv env' S e Q q
  unfold fVar at e
  split at e
  · cases e
    obtain ⟨v, h1, h2⟩ := S.fz i _ (by assumption)
    exact ⟨v, h1, q v H ⟨S, h2⟩⟩
  · cases e
    obtain ⟨p, xs, h1, _⟩ := S.ow i _ (.inl (by assumption))
    exact ⟨_, h1, q _ H ⟨S, h1⟩⟩
  · cases e
    obtain ⟨p, xs, h1, _⟩ := S.ow i _ (.inr (by assumption))
    exact ⟨_, h1, q _ H ⟨S, h1⟩⟩
  · cases e
/-- a written thing, a constant of the module -/
theorem snd_c {v : V} {d : D} (h : ∀ G, Dq K G v d) : Snd K (tC v) (fC d) := by
  intro B O I σ H env rv env' S e Q q
  cases e
  exact q v H ⟨S, h _⟩
theorem snd_int (i : Int) : Snd K (tC (.int i)) (fC (.int i)) := snd_c fun _ => .int i
theorem snd_bl (b : Bool) : Snd K (tC (.bl b)) (fC (.bl b)) := snd_c fun _ => .bl b
theorem snd_str (x : Str) : Snd K (tC (.str x)) (fC (.str x)) := snd_c fun _ => .str x
theorem snd_non : Snd K (tC .non) (fC .non) := snd_c fun _ => .non
theorem sa_nil : SndA K tNil fNil := by
  intro B O I σ H env rv env' S e Q q
  cases e
  exact q [] H S .nil
theorem PostA.later {B : Hp} {O : List Addr} {I : List (Nat × Addr)} {σ : L2.St} {H H' : Hp} {env env' : Env} (S : Sta K B O I σ H env) (S' : Sta K (keepH σ env H) O I σ H' env') :
    ∀ {vs : List V} {rs : List RV}, PostA K B O I σ H env vs rs → PostA K B O I σ H' env' vs rs
  | _, _, .nil => .nil
  | _, _, .cons h t => .cons (h.later S') (PostA.later S S' t)
theorem PostA.weak {B B' : Hp} {O : List Addr} {I : List (Nat × Addr)} {σ : L2.St} {H : Hp} {env : Env} (e : Same B B') :
    ∀ {vs : List V} {rs : List RV}, PostA K B' O I σ H env vs rs → PostA K B O I σ H env vs rs
  | _, _, .nil => .nil
  | _, _, @PostA.cons _ _ _ _ _ _ _ v r vs rs h t => .cons (by
      cases r with
      | ex n => exact False.elim h
      | val d => exact ⟨h.1.weak e, h.2⟩
      | slot i => exact ⟨h.1.weak e, h.2⟩
      | new ds => exact ⟨h.1.weak e, h.2⟩
      | tw dss => exact ⟨h.1.weak e, h.2⟩) (PostA.weak e t)
theorem sa_cons {te : TE} {t : TA} {fe : EF} {fr : AF} (h1 : Snd K te fe) (h2 : SndA K t fr) : SndA K (tCons te t) (fCons fe fr) := by
  intro B O I σ H env rv env' S e Q q
  unfold fCons at e
  cases e1 : fe env with
  | none => simp [e1] at e
  | some p1 =>
    obtain ⟨r1, env1⟩ := p1
    simp only [e1, Option.bind_eq_bind, Option.bind_some] at e
    cases e2 : fr env1 with
    | none => simp [e2] at e
    | some p2 =>
      obtain ⟨rs, env2⟩ := p2
      simp only [e2, Option.bind_some, Option.some.injEq, Prod.mk.injEq] at e
      obtain ⟨rfl, rfl⟩ := e
      refine h1 B O I σ H env r1 env1 S e1 _ fun v H1 P1 => ?_
      have P1' := P1.frz
      have S1 := P1'.sta
      refine h2 _ O I σ H1 env1 rs env2 S1.strong e2 _ fun vs H2 S2 P2 => ?_
      exact q (v :: vs) H2 (S2.weak S1.base_keep) (.cons (P1'.later S2) (PostA.weak S1.base_keep P2))
end
end Dv

namespace Dv
open PySem L2

theorem deref_frz {env : Env} {r : RV} : deref env (frz r) = deref env r := by cases r <;> rfl
theorem bnd {α β : Type} {o : Option α} {k : α → Option β} {z : β} (h : o.bind k = some z) : ∃ x, o = some x ∧ k x = some z := Option.bind_eq_some_iff.mp h

/-! ### operations of two things -/
abbrev G2 := D → D → Option RV
def f2 (g : G2) (fa fb : EF) : EF := fun env => (fa env).bind fun a => (fb a.2).bind fun b => (deref b.2 (frz a.1)).bind fun x => (deref b.2 b.1).bind fun y => (g x y).bind fun z => some (z, b.2)
def Op2 (K : PySem.W.Frag) (r : R2) (g : G2) : Prop := ∀ B O I σ H env x y ra rb d e z, Post K B O I σ H env x ra → Post K B O I σ H env y rb → deref env ra = some d → deref env rb = some e → g d e = some z →
  ∀ Q : VK, (∀ v H', Post K B O I σ H' env v z → Q v H') → r x y H Q
section
variable {K : PySem.W.Frag} {B : Hp} {O : List Addr} {I : List (Nat × Addr)} {σ : L2.St} {H H' : Hp} {env env' : Env} {v : V} {t ta tb : TE} {f fa fb : EF}
theorem Post.weak {B' : Hp} {r : RV} (h : Post K B' O I σ H env v (Dv.frz r)) (e : Same B B') : Post K B O I σ H env v (Dv.frz r) := by
  cases r with
  | ex n => exact False.elim h
  | val d => exact ⟨h.1.weak e, h.2⟩
  | slot i => exact ⟨h.1.weak e, h.2⟩
  | new ds => exact ⟨h.1.weak e, h.2⟩
  | tw dss => exact ⟨h.1.weak e, h.2⟩
theorem Post.weakN {B' : Hp} {r : RV} (h : Post K B' O I σ H env v r) (e : Same B B') : Post K B O I σ H env v r := by
  cases r with
  | ex n => exact False.elim h
  | val d => exact ⟨h.1.weak e, h.2⟩
  | slot i => exact ⟨h.1.weak e, h.2⟩
  | new ds =>
    obtain ⟨p, xs, h0, h1, h2, h3, S, h4⟩ := h
    exact ⟨p, xs, h0, h1, e.free h2, h3, S.weak e, h4⟩
  | tw dss =>
    obtain ⟨p, qs, h0, h1, h2, h3, S, h4⟩ := h
    exact ⟨p, qs, h0, h1, h2, fun q hq => ⟨e.free (h3 q hq).1, (h3 q hq).2⟩, S.weak e, h4⟩
theorem snd_2 {r : R2} {g : G2} (h1 : Snd K ta fa) (h2 : Snd K tb fb) (ho : Op2 K r g) : Snd K (tOp r ta tb) (f2 g fa fb) := by
  intro B O I σ H env rv env' S e Q q
  obtain ⟨⟨r1, env1⟩, e1, e⟩ := bnd e
  obtain ⟨⟨r2, env2⟩, e2, e⟩ := bnd e
  obtain ⟨x, ex, e⟩ := bnd e
  obtain ⟨y, ey, e⟩ := bnd e
  obtain ⟨z, ez, e⟩ := bnd e
  cases e
  refine h1 B O I σ H env r1 env1 S e1 _ fun v H1 P1 => ?_
  have P1' := P1.frz
  have S1 := P1'.sta
  refine h2 _ O I σ H1 env1 r2 env2 S1.strong e2 _ fun w H2 P2 => ?_
  exact ho B O I σ H2 env2 v w _ r2 x y _ (P1'.later P2.sta) (P2.weakN S1.base_keep) ex ey ez Q q
theorem Op2.or {r s : R2} {g h : G2} (h1 : Op2 K r g) (h2 : Op2 K s h) : Op2 K (fun x y H Q => r x y H Q ∨ s x y H Q) (fun d e => (g d e).or (h d e)) := by
  intro B O I σ H env x y ra rb d e z P1 P2 e1 e2 ez Q q
  dsimp only at ez
  cases c : g d e with
  | some z' =>
    rw [c] at ez
    cases ez
    exact .inl (h1 B O I σ H env x y ra rb d e _ P1 P2 e1 e2 c Q q)
  | none =>
    rw [c] at ez
    exact .inr (h2 B O I σ H env x y ra rb d e z P1 P2 e1 e2 ez Q q)
theorem OpR.or {X : Cx} {f : Value → Value → Sem Value} {r s : R2} (h1 : OpR X f r) (h2 : OpR X f s) : OpR X f (fun x y H Q => r x y H Q ∨ s x y H Q) := by
  intro pins st σ H x y v u Q I rx ry h
  rcases h with h | h
  · exact h1 pins st σ H x y v u Q I rx ry h
  · exact h2 pins st σ H x y v u Q I rx ry h
/-- ints -/
def gI (C : Int → Int → Bool) (g : Int → Int → Int) : G2
  | .int i, .int j => if C i j then some (.val (.int (g i j))) else none
  | _, _ => none
def gI0 (g : Int → Int → Int) : G2
  | .int i, .int j => some (.val (.int (g i j)))
  | _, _ => none
def gIB (g : Int → Int → Bool) : G2
  | .int i, .int j => some (.val (.bl (g i j)))
  | _, _ => none
theorem op2_I {P : Int → Int → Prop} {C : Int → Int → Bool} {g : Int → Int → Int} (hc : ∀ i j, C i j = true → P i j) : Op2 K (rI P fun i j => .int (g i j)) (gI C g) := by
  intro B O I σ H env x y ra rb d e z P1 P2 e1 e2 ez Q q
  have d1 := P1.read e1
  have d2 := P2.read e2
  unfold gI at ez
  split at ez
  · cases d1
    cases d2
    split at ez
    · cases ez
      exact ⟨_, _, rfl, rfl, hc _ _ (by assumption), q _ H ⟨P1.sta, .int _⟩⟩
    · cases ez
  · cases ez
theorem op2_I0 {g : Int → Int → Int} : Op2 K (rI0 fun i j => .int (g i j)) (gI0 g) := by
  intro B O I σ H env x y ra rb d e z P1 P2 e1 e2 ez Q q
  have d1 := P1.read e1
  have d2 := P2.read e2
  unfold gI0 at ez
  split at ez
  · cases d1
    cases d2
    cases ez
    exact ⟨_, _, rfl, rfl, q _ H ⟨P1.sta, .int _⟩⟩
  · cases ez
theorem op2_IB {g : Int → Int → Bool} : Op2 K (rI0 fun i j => .bl (g i j)) (gIB g) := by
  intro B O I σ H env x y ra rb d e z P1 P2 e1 e2 ez Q q
  have d1 := P1.read e1
  have d2 := P2.read e2
  unfold gIB at ez
  split at ez
  · cases d1
    cases d2
    cases ez
    exact ⟨_, _, rfl, rfl, q _ H ⟨P1.sta, .bl _⟩⟩
  · cases ez
/-- a new list of things that stay -/
theorem post_new {p : Addr} {xs : List V} {ds : List D} (S : Sta K B O I σ H env) (hp : H p = none) (h : DqA K (mi H O) xs ds) : Post K B O I σ (upd H p (.lst xs)) env (.ref p) (.new ds) := by
  have hO : p ∉ O := fun z => by
    obtain ⟨o, e⟩ := S.dom p z
    rw [hp] at e
    cases e
  refine ⟨p, xs, rfl, upd_same, S.base.free hp, hO, ?_, ?_⟩
  · rw [mi_one_new hp]
    exact S
  · rw [mi_one_new hp]
    exact h
/-- a new tuple of things that stay -/
theorem post_tup {p : Addr} {xs : List V} {ds : List D} (S : Sta K B O I σ H env) (hp : H p = none) (h : DqA K (mi H O) xs ds) : Post K B O I σ (upd H p (.tup xs)) env (.ref p) (.val (.tup ds)) := by
  have hO : p ∉ O := fun z => by
    obtain ⟨o, e⟩ := S.dom p z
    rw [hp] at e
    cases e
  have e : Same H (upd H p (.tup xs)) := same_new hp
  exact ⟨S.grow e, .tup (.inl (.inl (mi_of hO upd_same))) (DqA.mono (mi_mono e) _ _ h)⟩
/-- + of lists -/
def gCat : G2
  | .lst a, .lst b => if a.length + b.length ≤ 10000000 then some (.new (a ++ b)) else none
  | _, _ => none
theorem line_of {n : Nat} (h : n ≤ 10000000) : n ≤ sizeLine := Nat.le_trans h (by decide)
theorem line_lt {n : Nat} (h : n ≤ 10000000) : n < sizeLine := Nat.lt_of_le_of_lt h (by decide)
theorem op2_cat : Op2 K rCat gCat := by
  intro B O I σ H env x y ra rb d e z P1 P2 e1 e2 ez Q q
  unfold gCat at ez
  split at ez
  · obtain ⟨p1, xs, rfl, h1, k1⟩ := P1.items e1
    obtain ⟨p2, ys, rfl, h2, k2⟩ := P2.items e2
    split at ez
    · cases ez
      rename_i hl
      refine ⟨p1, p2, xs, ys, rfl, rfl, h1, h2, ?_, fun p hp => q _ _ (post_new P1.sta hp (k1.append k2))⟩
      rw [k1.length, k2.length]
      exact line_of hl
    · cases ez
  · cases ez
/-- xs * k -/
def gRep : G2
  | .lst a, .int k => if a.length * k.toNat ≤ 10000000 ∧ -1000000000 ≤ k ∧ k ≤ 1000000000 then some (.new (List.replicate k.toNat a).flatten) else none
  | _, _ => none
theorem DqA.rep {G : Hp} {xs : List V} {ds : List D} (h : DqA K G xs ds) : ∀ n : Nat, DqA K G (List.replicate n xs).flatten (List.replicate n ds).flatten
  | 0 => .nil
  | n + 1 => by
    rw [List.replicate_succ, List.replicate_succ, List.flatten_cons, List.flatten_cons]
    exact h.append (DqA.rep h n)
theorem op2_rep : Op2 K rRep gRep := by
  intro B O I σ H env x y ra rb d e z P1 P2 e1 e2 ez Q q
  unfold gRep at ez
  split at ez
  · obtain ⟨p1, xs, rfl, h1, k1⟩ := P1.items e1
    have d2 := P2.read e2
    cases d2
    split at ez
    · cases ez
      rename_i hl
      refine ⟨p1, _, xs, rfl, rfl, h1, by omega, by omega, ?_, fun p hp => q _ _ (post_new P1.sta hp (k1.rep _))⟩
      rw [k1.length]
      exact line_of hl.1
    · cases ez
  · cases ez
/-! ### deep == -/
mutual
def toPy : D → PyData
  | .non => .none
  | .bl b => .bool b
  | .int i => .int i
  | .str x => .str x
  | .lst xs => .list (toPys xs)
  | .tup xs => .tuple (toPys xs)
  | .scr _ => .dict []
  | .adr _ => .dict []
  | .nt xs => .tuple (toPys xs)
  | .dct _ _ => .dict []
def toPys : List D → List PyData
  | [] => []
  | d :: ds => toPy d :: toPys ds
end
mutual
theorem Dq.py {G : Hp} : ∀ (d : D) (v : V), Dq K G v d → PyData.canLay0 (toPy d) = true → Dp K G v (toPy d)
  | .non, _, h, _ => by cases h; simp only [toPy]; exact .non
  | .bl b, _, h, _ => by cases h; simp only [toPy]; exact .bl b
  | .int i, _, h, _ => by cases h; simp only [toPy]; exact .int i
  | .str x, _, h, _ => by cases h; simp only [toPy]; exact .str x
  | .lst ds, _, h, k => by
    cases h with
    | lst h1 h2 =>
      simp only [toPy] at k ⊢
      simp only [PyData.canLay0] at k
      exact .lst (.inl (.inl h1)) (DqA.py ds _ h2 k)
  | .tup ds, _, h, k => by
    cases h with
    | tup h1 h2 =>
      simp only [toPy] at k ⊢
      simp only [PyData.canLay0] at k
      exact .tup h1 (DqA.py ds _ h2 k)
  | .scr ns, _, h, k => by
    simp only [toPy, PyData.canLay0] at k
    cases k
  | .adr a, _, h, k => by
    simp only [toPy, PyData.canLay0] at k
    cases k
  | .nt ds, _, h, k => by
    cases h with
    | nt h1 h2 =>
      simp only [toPy] at k ⊢
      simp only [PyData.canLay0] at k
      exact .tup (.inl (.inl h1)) (DqA.py ds _ h2 k)
  | .dct _ _, _, h, k => by
    simp only [toPy, PyData.canLay0] at k
    cases k
theorem DqA.py {G : Hp} : ∀ (ds : List D) (vs : List V), DqA K G vs ds → PyData.canLayAll0 (toPys ds) = true → DpAll K G vs (toPys ds)
  | [], _, h, _ => by cases h; simp only [toPys]; exact .nil
  | d :: ds, _, h, k => by
    cases h with
    | cons h1 h2 =>
      simp only [toPys, PyData.canLayAll0, Bool.and_eq_true] at k ⊢
      exact .cons (Dq.py d _ h1 k.1) (DqA.py ds _ h2 k.2)
end
def shp (d : D) : Bool := SeqAt.shaped (toPy d)
def eqD (d e : D) : Bool := PyData.eqv (toPy d) (toPy e)
def gEq : G2 := fun d e => if shp d && shp e then some (.val (.bl (eqD d e))) else none
def gNe : G2 := fun d e => if shp d && shp e then some (.val (.bl (!eqD d e))) else none
theorem op2_eq : Op2 K (rEqD K) gEq := by
  intro B O I σ H env x y ra rb d e z P1 P2 e1 e2 ez Q q
  unfold gEq at ez
  split at ez
  · rename_i h
    cases ez
    rw [Bool.and_eq_true] at h
    have d1 := P1.read e1
    have d2 := P2.read e2
    exact ⟨_, _, Dq.py _ _ d1 (SeqAt.canLay_of_shaped h.1), Dq.py _ _ d2 (SeqAt.canLay_of_shaped h.2), h.1, h.2, q _ H ⟨P1.sta, .bl _⟩⟩
  · cases ez
theorem op2_ne : Op2 K (rNeD K) gNe := by
  intro B O I σ H env x y ra rb d e z P1 P2 e1 e2 ez Q q
  unfold gNe at ez
  split at ez
  · rename_i h
    cases ez
    rw [Bool.and_eq_true] at h
    have d1 := P1.read e1
    have d2 := P2.read e2
    exact ⟨_, _, Dq.py _ _ d1 (SeqAt.canLay_of_shaped h.1), Dq.py _ _ d2 (SeqAt.canLay_of_shaped h.2), h.1, h.2, q _ H ⟨P1.sta, .bl _⟩⟩
  · cases ez
/-! ### items -/
theorem DqA.atI {G : Hp} {vs : List V} {ds : List D} {i : Int} {d : D} (h : DqA K G vs ds) (e : L2.atI ds i = some d) : ∃ v, L2.atI vs i = some v ∧ Dq K G v d := by
  unfold L2.atI at e ⊢
  obtain ⟨j, e1, e2⟩ := bnd e
  rw [h.length, e1]
  exact h.get e2
theorem atI_map {α β : Type} {f : α → β} {xs : List α} {i : Int} {d : α} (h : L2.atI xs i = some d) : L2.atI (xs.map f) i = some (f d) := by
  unfold L2.atI at h ⊢
  obtain ⟨j, j1, j2⟩ := bnd h
  rw [List.length_map, j1]
  show (List.map f xs)[j]? = _
  rw [List.getElem?_map, j2]
  rfl
def gIx : G2
  | .lst ds, .int i => (L2.atI ds i).bind fun d => some (.val d)
  | .tup ds, .int i => (L2.atI ds i).bind fun d => some (.val d)
  | .scr ns, .int i => (L2.atI ns i).bind fun n => some (.val (.int n))
  | .str z, .int i => if z.length ≤ 10000000 then (L2.atI z.cps.toList i).bind fun c => some (.val (.str ⟨#[c]⟩)) else none
  | .nt ds, .int i => (L2.atI ds i).bind fun d => some (.val d)
  | _, _ => none
theorem op2_ix : Op2 K (rIx K) gIx := by
  intro B O I σ H env x y ra rb d e z P1 P2 e1 e2 ez Q q
  unfold gIx at ez
  have d2 := P2.read e2
  split at ez
  · obtain ⟨p1, xs, rfl, h1, k1⟩ := P1.items e1
    cases d2
    obtain ⟨d, e3, e4⟩ := bnd ez
    cases e4
    obtain ⟨v, e5, k⟩ := k1.atI e3
    exact .inl ⟨p1, xs, _, v, rfl, rfl, .inl (.inl h1), e5, q v H ⟨P1.sta, k⟩⟩
  · obtain ⟨p1, xs, rfl, h1, k1⟩ := P1.tuple e1
    cases d2
    obtain ⟨d, e3, e4⟩ := bnd ez
    cases e4
    obtain ⟨v, e5, k⟩ := k1.atI e3
    exact .inr (.inl ⟨p1, xs, _, v, rfl, rfl, h1, e5, q v H ⟨P1.sta, k⟩⟩)
  · have d1 := P1.read e1
    cases d1 with
    | scr h =>
      cases d2
      obtain ⟨d, e3, e4⟩ := bnd ez
      cases e4
      exact .inl ⟨_, _, _, _, rfl, rfl, h, atI_map e3, q _ H ⟨P1.sta, .int _⟩⟩
  · have d1 := P1.read e1
    cases d1
    cases d2
    split at ez
    · obtain ⟨d, e3, e4⟩ := bnd ez
      cases e4
      exact .inr (.inr ⟨_, _, _, rfl, rfl, line_of (by assumption), e3, q _ H ⟨P1.sta, .str _⟩⟩)
    · cases ez
  · obtain ⟨p1, xs, rfl, h1, k1⟩ := P1.ntup e1
    cases d2
    obtain ⟨d, e3, e4⟩ := bnd ez
    cases e4
    obtain ⟨v, e5, k⟩ := k1.atI e3
    exact .inr (.inl ⟨p1, xs, _, v, rfl, rfl, h1, e5, q v H ⟨P1.sta, k⟩⟩)
  · cases ez
/-! ### one thing; built-in functions -/
abbrev G1 := D → Option RV
def f1 (g : G1) (fa : EF) : EF := fun env => (fa env).bind fun a => (deref a.2 a.1).bind fun x => (g x).bind fun z => some (z, a.2)
def Op1 (K : PySem.W.Frag) (r : V → Hp → VK → Prop) (g : G1) : Prop := ∀ B O I σ H env x ra d z, Post K B O I σ H env x ra → deref env ra = some d → g d = some z →
  ∀ Q : VK, (∀ v H', Post K B O I σ H' env v z → Q v H') → r x H Q
theorem snd_1 {r : V → Hp → VK → Prop} {g : G1} (h1 : Snd K ta fa) (ho : Op1 K r g) : Snd K (tUn r ta) (f1 g fa) := by
  intro B O I σ H env rv env' S e Q q
  obtain ⟨⟨r1, env1⟩, e1, e⟩ := bnd e
  obtain ⟨x, ex, e⟩ := bnd e
  obtain ⟨z, ez, e⟩ := bnd e
  cases e
  exact h1 B O I σ H env r1 env1 S e1 _ fun v H1 P1 => ho B O I σ H1 env1 v r1 x _ P1 ex ez Q q
def gNeg : G1
  | .int i => some (.val (.int (-i)))
  | _ => none
theorem op1_neg : Op1 K (rU fun i => .int (-i)) gNeg := by
  intro B O I σ H env x ra d z P1 e1 ez Q q
  have d1 := P1.read e1
  unfold gNeg at ez
  split at ez
  · cases d1
    cases ez
    exact ⟨_, rfl, q _ H ⟨P1.sta, .int _⟩⟩
  · cases ez
def derefs (env : Env) : List RV → Option (List D)
  | [] => some []
  | r :: rs => (deref env r).bind fun d => (derefs env rs).bind fun ds => some (d :: ds)
abbrev GB := List D → Option RV
def fB (g : GB) (fa : AF) : EF := fun env => (fa env).bind fun a => (derefs a.2 a.1).bind fun xs => (g xs).bind fun z => some (z, a.2)
def CallG (K : PySem.W.Frag) (r : List V → Hp → VK → Prop) (g : GB) : Prop := ∀ B O I σ H env vs rs ds z, Sta K B O I σ H env → PostA K B O I σ H env vs rs → derefs env rs = some ds → g ds = some z →
  ∀ Q : VK, (∀ v H', Post K B O I σ H' env v z → Q v H') → r vs H Q
theorem snd_b {r : List V → Hp → VK → Prop} {g : GB} {t : TA} {fa : AF} (h1 : SndA K t fa) (ho : CallG K r g) : Snd K (tCB r t) (fB g fa) := by
  intro B O I σ H env rv env' S e Q q
  obtain ⟨⟨r1, env1⟩, e1, e⟩ := bnd e
  obtain ⟨x, ex, e⟩ := bnd e
  obtain ⟨z, ez, e⟩ := bnd e
  cases e
  exact h1 B O I σ H env r1 env1 S e1 _ fun v H1 S1 P1 => ho B O I σ H1 env1 v r1 x _ S1 P1 ex ez Q q
theorem one_of {vs : List V} {rs : List RV} {d : D} (P : PostA K B O I σ H env vs rs) (e : derefs env rs = some [d]) : ∃ v r, vs = [v] ∧ Post K B O I σ H env v r ∧ deref env r = some d := by
  cases P with
  | nil => cases e
  | @cons v r vs rs h t =>
    obtain ⟨x, e1, e⟩ := bnd e
    obtain ⟨y, e2, e⟩ := bnd e
    cases e
    cases t with
    | nil => exact ⟨v, _, rfl, h, e1⟩
    | cons h t =>
      obtain ⟨x, e1, e⟩ := bnd e2
      obtain ⟨y, e2, e⟩ := bnd e
      cases e
theorem two_of {vs : List V} {rs : List RV} {d e : D} (P : PostA K B O I σ H env vs rs) (h : derefs env rs = some [d, e]) :
    ∃ v w r s, vs = [v, w] ∧ Post K B O I σ H env v r ∧ deref env r = some d ∧ Post K B O I σ H env w s ∧ deref env s = some e := by
  cases P with
  | nil => cases h
  | @cons v r vs rs h1 t =>
    obtain ⟨x, e1, h⟩ := bnd h
    obtain ⟨y, e2, h⟩ := bnd h
    cases h
    obtain ⟨w, s, rfl, k1, k2⟩ := one_of t e2
    exact ⟨v, w, _, s, rfl, h1, e1, k1, k2⟩
def gLen : GB
  | [.lst ds] => some (.val (.int ds.length))
  | [.tup ds] => some (.val (.int ds.length))
  | [.scr ns] => some (.val (.int ns.length))
  | [.nt ds] => some (.val (.int ds.length))
  | _ => none
theorem cg_len : CallG K (fun xs H Q => ∃ p ys, xs = [.ref p] ∧ (SqL K H p ys ∨ SqT K H p ys) ∧ Q (.int ys.length) H) gLen := by
  intro B O I σ H env vs rs ds z S P e ez Q q
  unfold gLen at ez
  split at ez
  · obtain ⟨v, r, rfl, P1, e1⟩ := one_of P e
    obtain ⟨p1, xs, rfl, h1, k1⟩ := P1.items e1
    cases ez
    exact ⟨p1, xs, rfl, .inl (.inl (.inl h1)), by rw [k1.length]; exact q _ H ⟨S, .int _⟩⟩
  · obtain ⟨v, r, rfl, P1, e1⟩ := one_of P e
    obtain ⟨p1, xs, rfl, h1, k1⟩ := P1.tuple e1
    cases ez
    exact ⟨p1, xs, rfl, .inr h1, by rw [k1.length]; exact q _ H ⟨S, .int _⟩⟩
  · obtain ⟨v, r, rfl, P1, e1⟩ := one_of P e
    have d1 := P1.read e1
    cases d1 with
    | scr h =>
      cases ez
      exact ⟨_, _, rfl, .inl h, by rw [List.length_map]; exact q _ H ⟨S, .int _⟩⟩
  · obtain ⟨v, r, rfl, P1, e1⟩ := one_of P e
    obtain ⟨p1, xs, rfl, h1, k1⟩ := P1.ntup e1
    cases ez
    exact ⟨p1, xs, rfl, .inr h1, by rw [k1.length]; exact q _ H ⟨S, .int _⟩⟩
  · cases ez
def gAbs : GB
  | [.int i] => some (.val (.int (if i < 0 then -i else i)))
  | _ => none
theorem cg_abs : CallG K (fun xs H Q => ∃ i, xs = [.int i] ∧ Q (.int (if i < 0 then -i else i)) H) gAbs := by
  intro B O I σ H env vs rs ds z S P e ez Q q
  unfold gAbs at ez
  split at ez
  · obtain ⟨v, r, rfl, P1, e1⟩ := one_of P e
    have d1 := P1.read e1
    cases d1
    cases ez
    exact ⟨_, rfl, q _ H ⟨S, .int _⟩⟩
  · cases ez
def gMax2 : GB
  | [.int i, .int j] => some (.val (.int (if j > i then j else i)))
  | _ => none
def gMin2 : GB
  | [.int i, .int j] => some (.val (.int (if j < i then j else i)))
  | _ => none
theorem cg_max2 : CallG K (fun xs H Q => ∃ i j, xs = [.int i, .int j] ∧ Q (.int (if j > i then j else i)) H) gMax2 := by
  intro B O I σ H env vs rs ds z S P e ez Q q
  unfold gMax2 at ez
  split at ez
  · obtain ⟨v, w, r, s, rfl, P1, e1, P2, e2⟩ := two_of P e
    have d1 := P1.read e1
    have d2 := P2.read e2
    cases d1
    cases d2
    cases ez
    exact ⟨_, _, rfl, q _ H ⟨S, .int _⟩⟩
  · cases ez
theorem cg_min2 : CallG K (fun xs H Q => ∃ i j, xs = [.int i, .int j] ∧ Q (.int (if j < i then j else i)) H) gMin2 := by
  intro B O I σ H env vs rs ds z S P e ez Q q
  unfold gMin2 at ez
  split at ez
  · obtain ⟨v, w, r, s, rfl, P1, e1, P2, e2⟩ := two_of P e
    have d1 := P1.read e1
    have d2 := P2.read e2
    cases d1
    cases d2
    cases ez
    exact ⟨_, _, rfl, q _ H ⟨S, .int _⟩⟩
  · cases ez
def gInt : GB
  | [.int i] => some (.val (.int i))
  | [.bl b] => some (.val (.int (if b then 1 else 0)))
  | _ => none
theorem cg_int : CallG K (fun xs H Q => (∃ i, xs = [.int i] ∧ Q (.int i) H) ∨ ∃ k, xs = [.bl k] ∧ Q (.int (if k then 1 else 0)) H) gInt := by
  intro B O I σ H env vs rs ds z S P e ez Q q
  unfold gInt at ez
  split at ez
  · obtain ⟨v, r, rfl, P1, e1⟩ := one_of P e
    have d1 := P1.read e1
    cases d1
    cases ez
    exact .inl ⟨_, rfl, q _ H ⟨S, .int _⟩⟩
  · obtain ⟨v, r, rfl, P1, e1⟩ := one_of P e
    have d1 := P1.read e1
    cases d1
    cases ez
    exact .inr ⟨_, rfl, q _ H ⟨S, .int _⟩⟩
  · cases ez
def gStr : GB
  | [.int i] => if i.natAbs.log2 < 1920 then some (.val (.str (toString i))) else none
  | _ => none
theorem cg_str : CallG K (fun xs H Q => ∃ i, xs = [.int i] ∧ i.natAbs.log2 < 1920 ∧ Q (.str (toString i)) H) gStr := by
  intro B O I σ H env vs rs ds z S P e ez Q q
  unfold gStr at ez
  split at ez
  · obtain ⟨v, r, rfl, P1, e1⟩ := one_of P e
    have d1 := P1.read e1
    cases d1
    split at ez
    · cases ez
      exact ⟨_, rfl, by assumption, q _ H ⟨S, .str _⟩⟩
    · cases ez
  · cases ez
/-- list(x) of a list, a tuple -/
def gList : GB
  | [.lst ds] => some (.new ds)
  | [.tup ds] => some (.new ds)
  | _ => none
theorem cg_list : CallG K (fun xs H Q => ∃ p ys, xs = [.ref p] ∧ (SqL K H p ys ∨ SqT K H p ys) ∧ ∀ l, H l = none → Q (.ref l) (upd H l (.lst ys))) gList := by
  intro B O I σ H env vs rs ds z S P e ez Q q
  unfold gList at ez
  split at ez
  · obtain ⟨v, r, rfl, P1, e1⟩ := one_of P e
    obtain ⟨p1, xs, rfl, h1, k1⟩ := P1.items e1
    cases ez
    exact ⟨p1, xs, rfl, .inl (.inl (.inl h1)), fun l hl => q _ _ (post_new S hl k1)⟩
  · obtain ⟨v, r, rfl, P1, e1⟩ := one_of P e
    obtain ⟨p1, xs, rfl, h1, k1⟩ := P1.tuple e1
    cases ez
    exact ⟨p1, xs, rfl, .inr h1, fun l hl => q _ _ (post_new S hl k1)⟩
  · cases ez
/-- all, any, sum of a list -/
def allBls : List D → Option (List Bool)
  | [] => some []
  | .bl b :: r => (allBls r).bind fun bs => some (b :: bs)
  | _ => none
theorem allBls_eq : ∀ {ds : List D} {bs : List Bool}, allBls ds = some bs → ds = bs.map D.bl
  | [], _, h => by cases h; rfl
  | d :: ds, bs, h => by
    cases d with
    | bl b =>
      obtain ⟨x, e1, e2⟩ := bnd h
      cases e2
      rw [allBls_eq e1]
      rfl
    | _ => cases h
def allInts : List D → Option (List Int)
  | [] => some []
  | .int b :: r => (allInts r).bind fun bs => some (b :: bs)
  | _ => none
theorem allInts_eq : ∀ {ds : List D} {bs : List Int}, allInts ds = some bs → ds = bs.map D.int
  | [], _, h => by cases h; rfl
  | d :: ds, bs, h => by
    cases d with
    | int b =>
      obtain ⟨x, e1, e2⟩ := bnd h
      cases e2
      rw [allInts_eq e1]
      rfl
    | _ => cases h
theorem allInts_map : ∀ ns : List Int, allInts (ns.map D.int) = some ns
  | [] => rfl
  | n :: ns => by simp [allInts, allInts_map ns]
theorem allBls_map : ∀ ns : List Bool, allBls (ns.map D.bl) = some ns
  | [] => rfl
  | n :: ns => by simp [allBls, allBls_map ns]
def gAll : GB
  | [.lst ds] => (allBls ds).bind fun bs => some (.val (.bl (bs.all id)))
  | _ => none
def gAny : GB
  | [.lst ds] => (allBls ds).bind fun bs => some (.val (.bl (bs.any id)))
  | _ => none
def gSum : GB
  | [.lst ds] => (allInts ds).bind fun bs => some (.val (.int bs.sum))
  | _ => none
theorem cg_all : CallG K (rAll K) gAll := by
  intro B O I σ H env vs rs ds z S P e ez Q q
  unfold gAll at ez
  split at ez
  · obtain ⟨v, r, rfl, P1, e1⟩ := one_of P e
    obtain ⟨p1, xs, rfl, h1, k1⟩ := P1.items e1
    obtain ⟨bs, e2, e3⟩ := bnd ez
    cases e3
    rw [allBls_eq e2] at k1
    rw [k1.isBls] at h1
    exact ⟨p1, bs, rfl, .inl (.inl h1), q _ H ⟨S, .bl _⟩⟩
  · cases ez
theorem cg_any : CallG K (rAny K) gAny := by
  intro B O I σ H env vs rs ds z S P e ez Q q
  unfold gAny at ez
  split at ez
  · obtain ⟨v, r, rfl, P1, e1⟩ := one_of P e
    obtain ⟨p1, xs, rfl, h1, k1⟩ := P1.items e1
    obtain ⟨bs, e2, e3⟩ := bnd ez
    cases e3
    rw [allBls_eq e2] at k1
    rw [k1.isBls] at h1
    exact ⟨p1, bs, rfl, .inl (.inl h1), q _ H ⟨S, .bl _⟩⟩
  · cases ez
theorem cg_sum : CallG K (rSum K) gSum := by
  intro B O I σ H env vs rs ds z S P e ez Q q
  unfold gSum at ez
  split at ez
  · obtain ⟨v, r, rfl, P1, e1⟩ := one_of P e
    obtain ⟨p1, xs, rfl, h1, k1⟩ := P1.items e1
    obtain ⟨bs, e2, e3⟩ := bnd ez
    cases e3
    rw [allInts_eq e2] at k1
    rw [k1.isInts] at h1
    exact ⟨p1, bs, rfl, .inl (.inl h1), q _ H ⟨S, .int _⟩⟩
  · cases ez
/-! ### displays -/
def allVal : List RV → Option (List D)
  | [] => some []
  | .val d :: r => (allVal r).bind fun ds => some (d :: ds)
  | _ => none
theorem post_vals : ∀ {vs : List V} {rs : List RV} {ds : List D}, PostA K B O I σ H env vs rs → allVal rs = some ds → DqA K (mi H O) vs ds
  | _, _, _, .nil, e => by cases e; exact .nil
  | _, _, _, @PostA.cons _ _ _ _ _ _ _ v r vs rs h t, e => by
    cases r with
    | ex n => exact False.elim h
    | val d =>
      obtain ⟨x, e1, e2⟩ := bnd e
      cases e2
      exact .cons h.2 (post_vals t e1)
    | slot i => cases e
    | new es =>
      obtain ⟨x, e1, e2⟩ := bnd e
      cases e2
      exact .cons h.2 (post_vals t e1)
    | tw dss =>
      obtain ⟨x, e1, e2⟩ := bnd e
      cases e2
      exact .cons h.2 (post_vals t e1)
theorem allVal_len : ∀ {rs : List RV} {ds : List D}, allVal rs = some ds → rs.length = ds.length
  | [], _, e => by cases e; rfl
  | .val d :: r, _, e => by
    obtain ⟨x, e1, e2⟩ := bnd e
    cases e2
    simp [allVal_len e1]
  | .slot i :: r, _, e => by cases e
  | .new es :: r, _, e => by cases e
  | .ex n :: r, _, e => by cases e
  | .tw n :: r, _, e => by cases e
def fTup (fa : AF) : EF := fun env => (fa env).bind fun a => (allVal a.1).bind fun ds => if ds.length ≤ 10000000 then some (.val (.tup ds), a.2) else none
def fLst (fa : AF) : EF := fun env => (fa env).bind fun a => (allVal a.1).bind fun ds => if ds.length ≤ 10000000 then some (.new ds, a.2) else none
theorem snd_tup {t : TA} {fa : AF} (h1 : SndA K t fa) : Snd K (tTup t) (fTup fa) := by
  intro B O I σ H env rv env' S e Q q
  obtain ⟨⟨r1, env1⟩, e1, e⟩ := bnd e
  obtain ⟨ds, e2, e⟩ := bnd e
  dsimp only at e2 e
  split at e
  · cases e
    refine h1 B O I σ H env r1 _ S e1 _ fun vs H1 S1 P1 => ?_
    have k := post_vals P1 e2
    refine ⟨by rw [k.length]; exact line_of (by assumption), fun p hp => q _ _ (post_tup S1 hp k)⟩
  · cases e
theorem snd_lst {t : TA} {fa : AF} (h1 : SndA K t fa) : Snd K (tLst t) (fLst fa) := by
  intro B O I σ H env rv env' S e Q q
  obtain ⟨⟨r1, env1⟩, e1, e⟩ := bnd e
  obtain ⟨ds, e2, e⟩ := bnd e
  dsimp only at e2 e
  split at e
  · cases e
    refine h1 B O I σ H env r1 _ S e1 _ fun vs H1 S1 P1 => ?_
    have k := post_vals P1 e2
    refine ⟨by rw [k.length]; exact line_of (by assumption), fun p hp => q _ _ (post_new S1 hp k)⟩
  · cases e
/-! ### tests -/
def fT (f : EF) : TF := fun env => (f env).bind fun a => match a.1 with
  | .val (.bl b) => some (b, a.2)
  | _ => none
theorem fT_of {f : EF} {env env' : Env} {b : Bool} (e : fT f env = some (b, env')) : f env = some (.val (.bl b), env') := by
  obtain ⟨⟨r1, env1⟩, e1, e⟩ := bnd e
  dsimp only at e
  split at e
  · cases e
    rw [e1]
  · cases e
theorem st_test (h : Snd K t f) : SndT K (tTest t) (fT f) := by
  intro B O I σ H env b env' S e Q q
  refine h B O I σ H env _ _ S (fT_of e) _ fun v H1 P1 => ?_
  obtain ⟨S1, d1⟩ := P1
  cases d1
  exact ⟨b, rfl, q _ S1⟩
theorem st_B (h : Snd K t f) : SndT K (tB t) (fT f) := by
  intro B O I σ H env b env' S e Q q
  refine h B O I σ H env _ _ S (fT_of e) _ fun v H1 P1 => ?_
  obtain ⟨S1, d1⟩ := P1
  cases d1
  exact ⟨b, rfl, q _ S1⟩
def fAnd (a b : TF) : TF := fun env => (a env).bind fun x => if x.1 then b x.2 else some (false, x.2)
def fOr (a b : TF) : TF := fun env => (a env).bind fun x => if x.1 then some (true, x.2) else b x.2
def fNot (a : TF) : TF := fun env => (a env).bind fun x => some (!x.1, x.2)
section
variable {t u : TT} {f g : TF}
theorem st_and (h1 : SndT K t f) (h2 : SndT K u g) : SndT K (tAnd t u) (fAnd f g) := by
  intro B O I σ H env b env' S e Q q
  obtain ⟨⟨b1, env1⟩, e1, e⟩ := bnd e
  refine h1 B O I σ H env b1 env1 S e1 _ fun H1 S1 => ?_
  cases b1 with
  | true =>
    rw [if_pos rfl]
    exact h2 B O I σ H1 env1 b env' S1 e Q q
  | false =>
    rw [if_neg Bool.false_ne_true]
    cases e
    exact q H1 S1
theorem st_or (h1 : SndT K t f) (h2 : SndT K u g) : SndT K (tOr t u) (fOr f g) := by
  intro B O I σ H env b env' S e Q q
  obtain ⟨⟨b1, env1⟩, e1, e⟩ := bnd e
  refine h1 B O I σ H env b1 env1 S e1 _ fun H1 S1 => ?_
  cases b1 with
  | true =>
    rw [if_pos rfl]
    cases e
    exact q H1 S1
  | false =>
    rw [if_neg Bool.false_ne_true]
    exact h2 B O I σ H1 env1 b env' S1 e Q q
theorem st_not (h1 : SndT K t f) : SndT K (tNot t) (fNot f) := by
  intro B O I σ H env b env' S e Q q
  obtain ⟨⟨b1, env1⟩, e1, e⟩ := bnd e
  cases e
  exact h1 B O I σ H env b1 _ S e1 _ fun H1 S1 => q H1 S1
end
/-! ### and, or, not, if as values -/
def fAndV (a b : EF) : EF := fun env => (fT a env).bind fun x => if x.1 then b x.2 else some (.val (.bl false), x.2)
def fOrV (a b : EF) : EF := fun env => (fT a env).bind fun x => if x.1 then some (.val (.bl true), x.2) else b x.2
def fNotV (a : EF) : EF := fun env => (fT a env).bind fun x => some (.val (.bl (!x.1)), x.2)
def fIfE (c : TF) (a b : EF) : EF := fun env => (c env).bind fun x => if x.1 then a x.2 else b x.2
theorem snd_and (h1 : Snd K ta fa) (h2 : Snd K tb fb) : Snd K (tAndV ta tb) (fAndV fa fb) := by
  intro B O I σ H env rv env' S e Q q
  obtain ⟨⟨b1, env1⟩, e1, e⟩ := bnd e
  refine h1 B O I σ H env _ _ S (fT_of e1) _ fun v H1 P1 => ?_
  obtain ⟨S1, d1⟩ := P1
  cases d1
  refine ⟨b1, rfl, ?_⟩
  cases b1 with
  | true =>
    rw [if_pos rfl]
    exact h2 B O I σ H1 env1 rv env' S1 e Q q
  | false =>
    rw [if_neg Bool.false_ne_true]
    cases e
    exact q _ H1 ⟨S1, .bl _⟩
theorem snd_or (h1 : Snd K ta fa) (h2 : Snd K tb fb) : Snd K (tOrV ta tb) (fOrV fa fb) := by
  intro B O I σ H env rv env' S e Q q
  obtain ⟨⟨b1, env1⟩, e1, e⟩ := bnd e
  refine h1 B O I σ H env _ _ S (fT_of e1) _ fun v H1 P1 => ?_
  obtain ⟨S1, d1⟩ := P1
  cases d1
  refine ⟨b1, rfl, ?_⟩
  cases b1 with
  | true =>
    rw [if_pos rfl]
    cases e
    exact q _ H1 ⟨S1, .bl _⟩
  | false =>
    rw [if_neg Bool.false_ne_true]
    exact h2 B O I σ H1 env1 rv env' S1 e Q q
theorem snd_not (h1 : Snd K ta fa) : Snd K (tNotV ta) (fNotV fa) := by
  intro B O I σ H env rv env' S e Q q
  obtain ⟨⟨b1, env1⟩, e1, e⟩ := bnd e
  cases e
  refine h1 B O I σ H env _ _ S (fT_of e1) _ fun v H1 P1 => ?_
  obtain ⟨S1, d1⟩ := P1
  cases d1
  exact ⟨b1, rfl, q _ H1 ⟨S1, .bl _⟩⟩
theorem snd_if {c : TT} {fc : TF} (hc : SndT K c fc) (h1 : Snd K ta fa) (h2 : Snd K tb fb) : Snd K (tIf c ta tb) (fIfE fc fa fb) := by
  intro B O I σ H env rv env' S e Q q
  obtain ⟨⟨b1, env1⟩, e1, e⟩ := bnd e
  refine hc B O I σ H env _ _ S e1 _ fun H1 S1 => ?_
  cases b1 with
  | true =>
    rw [if_pos rfl]
    exact h1 B O I σ H1 env1 rv env' S1 e Q q
  | false =>
    rw [if_neg Bool.false_ne_true]
    exact h2 B O I σ H1 env1 rv env' S1 e Q q
end
end Dv

namespace Dv
open PySem L2

inductive Out where
  | nx (env : Env) | rt (r : RV) (env : Env) | bk (env : Env) | ct (env : Env)
abbrev SFn := Env → Option Out
def Sub (B : Hp) (I : List (Nat × Addr)) (O O' : List Addr) : Prop := (∀ a, a ∈ O → (B a ≠ none ∨ a ∈ I.map (·.2)) → a ∈ O') ∧ ∀ a, a ∈ O' → a ∈ O ∨ B a = none
theorem Sub.refl {B : Hp} {I : List (Nat × Addr)} {O : List Addr} : Sub B I O O := ⟨fun _ h _ => h, fun _ h => .inl h⟩
theorem Sub.trans {B : Hp} {I : List (Nat × Addr)} {O O1 O2 : List Addr} (h : Sub B I O O1) (k : Sub B I O1 O2) : Sub B I O O2 :=
  ⟨fun a z y => k.1 a (h.1 a z y) y, fun a z => (k.2 a z).elim (fun y => h.2 a y) .inr⟩
theorem Sub.weak {B B' : Hp} {I : List (Nat × Addr)} {O O' : List Addr} (h : Sub B' I O O') (e : Same B B') : Sub B I O O' := ⟨fun a z y => h.1 a z (y.imp (fun n q => n (e.free q)) id), fun a z => (h.2 a z).imp id e.free⟩
/-- what is wished of a refusal -/
abbrev WN := Nat → L2.St → Hp → Prop
def OutOk (K : PySem.W.Frag) (W : WN) (B : Hp) (O : List Addr) (I : List (Nat × Addr)) (D : Ends) : Out → Prop
  | .nx env => ∀ O' σ' H', Sub B I O O' → Sta K B O' I σ' H' env → D.nx σ' H'
  | .rt (.ex n) env => ∀ O' σ' H', Sub B I O O' → Sta K B O' I σ' H' env → W n σ' H'
  | .rt r env => ∀ O' σ' H' v, Sub B I O O' → Post K B O' I σ' H' env v r → D.rt v H'
  | .bk env => ∀ O' σ' H', Sub B I O O' → Sta K B O' I σ' H' env → D.bk σ' H'
  | .ct env => ∀ O' σ' H', Sub B I O O' → Sta K B O' I σ' H' env → D.ct σ' H'
def SndS (K : PySem.W.Frag) (W : WN) (t : TS) (g : SFn) : Prop := ∀ B O I σ H env o, Sta K B O I σ H env → g env = some o → ∀ D, OutOk K W B O I D o → t D σ H

section
variable {K : PySem.W.Frag} {B : Hp} {O : List Addr} {I : List (Nat × Addr)} {σ : L2.St} {H H' : Hp} {env env' : Env} {v : V} {t ta tb te : TE} {f fa fb fe : EF} {W : WN}
theorem OutOk.sub {O' : List Addr} {D : Ends} {o : Out} (s : Sub B I O O') (h : OutOk K W B O I D o) : OutOk K W B O' I D o := by
  cases o with
  | nx e => exact fun O2 σ2 H2 k S => h O2 σ2 H2 (s.trans k) S
  | rt r e =>
    cases r with
    | ex n => exact fun O2 σ2 H2 k S => h O2 σ2 H2 (s.trans k) S
    | val d => exact fun O2 σ2 H2 v k S => h O2 σ2 H2 v (s.trans k) S
    | slot i => exact fun O2 σ2 H2 v k S => h O2 σ2 H2 v (s.trans k) S
    | new ds => exact fun O2 σ2 H2 v k S => h O2 σ2 H2 v (s.trans k) S
    | tw ds => exact fun O2 σ2 H2 v k S => h O2 σ2 H2 v (s.trans k) S
  | bk e => exact fun O2 σ2 H2 k S => h O2 σ2 H2 (s.trans k) S
  | ct e => exact fun O2 σ2 H2 k S => h O2 σ2 H2 (s.trans k) S
theorem OutOk.strong {B' : Hp} {D : Ends} {o : Out} (e : Same B B') (h : OutOk K W B O I D o) : OutOk K W B' O I D o := by
  cases o with
  | nx _ => exact fun O2 σ2 H2 k S => h O2 σ2 H2 (k.weak e) (S.weak e)
  | rt r _ =>
    cases r with
    | ex n => exact fun O2 σ2 H2 k S => h O2 σ2 H2 (k.weak e) (S.weak e)
    | val d => exact fun O2 σ2 H2 v k S => h O2 σ2 H2 v (k.weak e) (Post.weakN (r := .val d) S e)
    | slot i => exact fun O2 σ2 H2 v k S => h O2 σ2 H2 v (k.weak e) (Post.weakN (r := .slot i) S e)
    | new ds => exact fun O2 σ2 H2 v k S => h O2 σ2 H2 v (k.weak e) (Post.weakN (r := .new ds) S e)
    | tw ds => exact fun O2 σ2 H2 v k S => h O2 σ2 H2 v (k.weak e) (Post.weakN (r := .tw ds) S e)
  | bk _ => exact fun O2 σ2 H2 k S => h O2 σ2 H2 (k.weak e) (S.weak e)
  | ct _ => exact fun O2 σ2 H2 k S => h O2 σ2 H2 (k.weak e) (S.weak e)
theorem OutOk.rt {D : Ends} {r : RV} {e : Env} (h : OutOk K W B O I D (.rt r e)) {O' : List Addr} {σ' : L2.St} {H' : Hp} {v : V} (s : Sub B I O O') (P : Post K B O' I σ' H' e v r) : D.rt v H' := by
  cases r with
  | ex n => exact False.elim P
  | val d => exact h O' σ' H' v s P
  | slot i => exact h O' σ' H' v s P
  | new ds => exact h O' σ' H' v s P
  | tw ds => exact h O' σ' H' v s P
theorem OutOk.ret {D D' : Ends} {r : RV} {e : Env} (h : OutOk K W B O I D (.rt r e)) (q : ∀ v H, D.rt v H → D'.rt v H) : OutOk K W B O I D' (.rt r e) := by
  cases r with
  | ex n => exact h
  | val d => exact fun O' σ' H' v s P => q _ _ (h O' σ' H' v s P)
  | slot i => exact fun O' σ' H' v s P => q _ _ (h O' σ' H' v s P)
  | new ds => exact fun O' σ' H' v s P => q _ _ (h O' σ' H' v s P)
  | tw ds => exact fun O' σ' H' v s P => q _ _ (h O' σ' H' v s P)
def isIo (env : Env) (i : Nat) : Bool := match env[i]? with
  | some (.io _) => true
  | _ => false
theorem isIo_of {i : Nat} {ds : List D} (h : env[i]? = some (.io ds)) : isIo env i = true := by
  unfold isIo
  rw [h]
def putS (i : Nat) (s : SV) (env : Env) : Option Env := if isIo env i = true ∨ env.length ≤ i then none else some (env.set i s)
theorem putS_of {i : Nat} {s : SV} (h : putS i s env = some env') : isIo env i = false ∧ i < env.length ∧ env' = env.set i s := by
  unfold putS at h
  split at h
  · cases h
  · rename_i n
    cases h
    refine ⟨?_, ?_, rfl⟩
    · cases c : isIo env i with
      | true => exact absurd (.inl c) n
      | false => rfl
    · exact Nat.lt_of_not_le fun z => n (.inr z)
theorem own_set {i j : Nat} {s : SV} {ds : List D} (hj : j ≠ i) : OwnAt (env.set i s) j ds ↔ OwnAt env j ds := by
  unfold OwnAt
  rw [List.getElem?_set_ne (Ne.symm hj)]
theorem nw_set {i j : Nat} {s : SV} {w : OV} (hl : i < env.length) (hs : ∀ w, s ≠ .nw w) (h : (env.set i s)[j]? = some (.nw w)) : j ≠ i ∧ env[j]? = some (.nw w) := by
  by_cases c : j = i
  · subst c
    rw [List.getElem?_set_self hl] at h
    cases h
    exact absurd rfl (hs w)
  · rw [List.getElem?_set_ne (Ne.symm c)] at h
    exact ⟨c, h⟩
theorem own_fz {i : Nat} {d : D} {ds : List D} (hi : i < env.length) : ¬ OwnAt (env.set i (.fz d)) i ds := by
  unfold OwnAt
  rw [List.getElem?_set_self hi]
  rintro (h | h) <;> cases h
theorem own_no {i : Nat} {ds : List D} (hi : i < env.length) : ¬ OwnAt (env.set i .no) i ds := by
  unfold OwnAt
  rw [List.getElem?_set_self hi]
  rintro (h | h) <;> cases h
/-- a name gets a thing that stays -/
theorem Sta.put {i : Nat} {d : D} (S : Sta K B O I σ H env) (h : Dq K (mi H O) v d) (e : putS i (.fz d) env = some env') : Sta K B O I (σ.set i (some v)) H env' := by
  obtain ⟨h1, h2, rfl⟩ := putS_of e
  have hs : i < σ.length := by rw [S.len]; exact h2
  have ne : ∀ j ds, OwnAt (env.set i (.fz d)) j ds → j ≠ i := fun j ds z y => by
    subst y
    exact own_fz h2 z
  refine ⟨by simp [S.len], fun j e hj => ?_, fun j ds hj => ?_, fun j k ds es p hj hk e1 e2 => ?_, S.base, S.dom, fun j p hj => ?_, ?_, S.nt⟩
  · by_cases c : j = i
    · subst c
      rw [List.getElem?_set_self h2] at hj
      cases hj
      exact ⟨v, List.getElem?_set_self hs, h⟩
    · rw [List.getElem?_set_ne (Ne.symm c)] at hj ⊢
      exact S.fz j e hj
  · have c := ne j ds hj
    obtain ⟨p, xs, k1, k2⟩ := S.ow j ds ((own_set c).mp hj)
    exact ⟨p, xs, by rw [List.getElem?_set_ne (Ne.symm c)]; exact k1, k2⟩
  · have c := ne j ds hj
    have c' := ne k es hk
    rw [List.getElem?_set_ne (Ne.symm c)] at e1
    rw [List.getElem?_set_ne (Ne.symm c')] at e2
    exact S.sep j k ds es p ((own_set c).mp hj) ((own_set c').mp hk) e1 e2
  · obtain ⟨k1, ds, k2⟩ := S.pin j p hj
    have c : j ≠ i := fun z => by
      subst z
      rw [isIo_of k2] at h1
      cases h1
    rw [List.getElem?_set_ne (Ne.symm c), List.getElem?_set_ne (Ne.symm c)]
    exact ⟨k1, ds, k2⟩
  · refine NwOk.go S.nw (fun j w hj => ?_) (fun j ds a hj e => ?_) (fun a h1 h2 _ _ => ⟨h1, h2, rfl⟩) (Same.refl _) S.dom
    · obtain ⟨c, k⟩ := nw_set h2 (by intro w z; cases z) hj
      exact ⟨k, List.getElem?_set_ne (Ne.symm c)⟩
    · have c := ne j ds hj
      rw [List.getElem?_set_ne (Ne.symm c)] at e
      exact .inl ⟨ds, (own_set c).mp hj, e⟩
/-- a name is forgotten (its value may be anything) -/
theorem Sta.drop {i : Nat} {w : Option V} (S : Sta K B O I σ H env) (e : putS i .no env = some env') : Sta K B O I (σ.set i w) H env' := by
  obtain ⟨h1, h2, rfl⟩ := putS_of e
  have ne : ∀ j ds, OwnAt (env.set i .no) j ds → j ≠ i := fun j ds z y => by
    subst y
    exact own_no h2 z
  refine ⟨by simp [S.len], fun j e hj => ?_, fun j ds hj => ?_, fun j k ds es p hj hk e1 e2 => ?_, S.base, S.dom, fun j p hj => ?_, ?_, S.nt⟩
  · by_cases c : j = i
    · subst c
      rw [List.getElem?_set_self h2] at hj
      cases hj
    · rw [List.getElem?_set_ne (Ne.symm c)] at hj ⊢
      exact S.fz j e hj
  · have c := ne j ds hj
    obtain ⟨p, xs, k1, k2⟩ := S.ow j ds ((own_set c).mp hj)
    exact ⟨p, xs, by rw [List.getElem?_set_ne (Ne.symm c)]; exact k1, k2⟩
  · have c := ne j ds hj
    have c' := ne k es hk
    rw [List.getElem?_set_ne (Ne.symm c)] at e1
    rw [List.getElem?_set_ne (Ne.symm c')] at e2
    exact S.sep j k ds es p ((own_set c).mp hj) ((own_set c').mp hk) e1 e2
  · obtain ⟨k1, ds, k2⟩ := S.pin j p hj
    have c : j ≠ i := fun z => by
      subst z
      rw [isIo_of k2] at h1
      cases h1
    rw [List.getElem?_set_ne (Ne.symm c), List.getElem?_set_ne (Ne.symm c)]
    exact ⟨k1, ds, k2⟩
  · refine NwOk.go S.nw (fun j w hj => ?_) (fun j ds a hj e => ?_) (fun a h1 h2 _ _ => ⟨h1, h2, rfl⟩) (Same.refl _) S.dom
    · obtain ⟨c, k⟩ := nw_set h2 (by intro w z; cases z) hj
      exact ⟨k, List.getElem?_set_ne (Ne.symm c)⟩
    · have c := ne j ds hj
      rw [List.getElem?_set_ne (Ne.symm c)] at e
      exact .inl ⟨ds, (own_set c).mp hj, e⟩
theorem mi_mi {p : Addr} : mi (mi H [p]) O = mi H (p :: O) := by
  funext a
  unfold mi
  by_cases h1 : a ∈ O
  · rw [if_pos h1, if_pos (List.mem_cons_of_mem _ h1)]
  · rw [if_neg h1]
    by_cases h2 : a = p
    · subst h2
      rw [if_pos (List.mem_singleton.mpr rfl), if_pos List.mem_cons_self]
    · rw [if_neg (fun z => h2 (List.mem_singleton.mp z)), if_neg (fun z => (List.mem_cons.mp z).elim h2 h1)]
/-- a name gets a new list as its own -/
theorem Sta.owned {i : Nat} {ds : List D} (P : Post K B O I σ H env v (.new ds)) (e : putS i (.o1 ds) env = some env') : ∃ O', Sub B I O O' ∧ Sta K B O' I (σ.set i (some v)) H env' := by
  obtain ⟨p, xs, rfl, hp, hB, hO, S, hx⟩ := P
  obtain ⟨h1, h2, rfl⟩ := putS_of e
  have hs : i < σ.length := by rw [S.len]; exact h2
  have low : ∀ q ys, mi H [p] q = some ys → q ≠ p ∧ H q = some ys := fun q ys z => by
    obtain ⟨z1, z2⟩ := mi_some z
    exact ⟨fun y => z1 (List.mem_singleton.mpr y), z2⟩
  refine ⟨p :: O, ⟨fun a h _ => List.mem_cons_of_mem _ h, fun a h => (List.mem_cons.mp h).elim (fun z => .inr (z ▸ hB)) .inl⟩, ?_⟩
  refine ⟨by simp [S.len], fun j e hj => ?_, fun j es hj => ?_, fun j k es gs q hj hk e1 e2 => ?_, S.base.trans mi_same, fun q hq => ?_, fun j q hj => ?_, ?_, fun q xs hq => ?_⟩
  · by_cases c : j = i
    · subst c
      rw [List.getElem?_set_self h2] at hj
      cases hj
    · rw [List.getElem?_set_ne (Ne.symm c)] at hj ⊢
      obtain ⟨w, k1, k2⟩ := S.fz j e hj
      rw [mi_mi] at k2
      exact ⟨w, k1, k2⟩
  · by_cases c : j = i
    · subst c
      have ee : es = ds := by
        unfold OwnAt at hj
        rw [List.getElem?_set_self h2] at hj
        rcases hj with h | h <;> cases h
        rfl
      subst ee
      rw [mi_mi] at hx
      exact ⟨p, xs, List.getElem?_set_self hs, List.mem_cons_self, hp, hx, hB⟩
    · obtain ⟨q, ys, k1, k2, k3, k4, k5⟩ := S.ow j es ((own_set c).mp hj)
      rw [mi_mi] at k4
      exact ⟨q, ys, by rw [List.getElem?_set_ne (Ne.symm c)]; exact k1, List.mem_cons_of_mem _ k2, (low _ _ k3).2, k4, k5⟩
  · have key : ∀ j es q, j ≠ i → OwnAt (env.set i (.o1 ds)) j es → (σ.set i (some (V.ref p)))[j]? = some (some (.ref q)) → q ≠ p := fun j es q c z y => by
      obtain ⟨q', ys, k1, k2, k3, k4, k5⟩ := S.ow j es ((own_set c).mp z)
      rw [List.getElem?_set_ne (Ne.symm c), k1] at y
      cases y
      exact (low _ _ k3).1
    by_cases c : j = i
    · by_cases c' : k = i
      · rw [c, c']
      · subst c
        rw [List.getElem?_set_self hs] at e1
        cases e1
        exact absurd rfl (key k gs _ c' hk e2)
    · by_cases c' : k = i
      · subst c'
        rw [List.getElem?_set_self hs] at e2
        cases e2
        exact absurd rfl (key j es _ c hj e1)
      · rw [List.getElem?_set_ne (Ne.symm c)] at e1
        rw [List.getElem?_set_ne (Ne.symm c')] at e2
        exact S.sep j k es gs q ((own_set c).mp hj) ((own_set c').mp hk) e1 e2
  · rcases List.mem_cons.mp hq with rfl | hq
    · exact ⟨_, hp⟩
    · obtain ⟨o, z⟩ := S.dom q hq
      exact ⟨o, (low _ _ z).2⟩
  · obtain ⟨k1, es, k2⟩ := S.pin j q hj
    have c : j ≠ i := fun z => by
      subst z
      rw [isIo_of k2] at h1
      cases h1
    rw [List.getElem?_set_ne (Ne.symm c), List.getElem?_set_ne (Ne.symm c)]
    exact ⟨k1, es, k2⟩
  · have e0 : Same (mi (mi H [p]) O) (mi H (p :: O)) := by
      rw [mi_mi]
      exact Same.refl _
    refine NwOk.go S.nw (fun j w hj => ?_) (fun j es a hj e => ?_) (fun a h1 h2 ⟨o, h3⟩ _ => ⟨List.mem_cons_of_mem _ h1, h2, by rw [h3]; exact (low _ _ h3).2⟩) e0 S.dom
    · obtain ⟨c, k⟩ := nw_set h2 (by intro w z; cases z) hj
      exact ⟨k, List.getElem?_set_ne (Ne.symm c)⟩
    · by_cases c : j = i
      · subst c
        rw [List.getElem?_set_self hs] at e
        cases e
        exact .inr hO
      · rw [List.getElem?_set_ne (Ne.symm c)] at e
        exact .inl ⟨es, (own_set c).mp hj, e⟩
  · rcases List.mem_cons.mp hq with rfl | hq
    · rw [hp]
      exact fun z => by cases z
    · exact S.ntS hq (fun o z => (low _ _ z).2) xs
/-- an own list is changed in its place -/
def upO (i : Nat) (h : List D → Option (List D)) (env : Env) : Option Env := match env[i]? with
  | some (.o1 ds) => (h ds).bind fun es => some (env.set i (.o1 es))
  | some (.io ds) => (h ds).bind fun es => some (env.set i (.io es))
  | _ => none
theorem upO_of {i : Nat} {h : List D → Option (List D)} (e : upO i h env = some env') : ∃ ds es k, OwnAt env i ds ∧ h ds = some es ∧ (k = SV.o1 ∨ k = SV.io) ∧ env[i]? = some (k ds) ∧ env' = env.set i (k es) := by
  unfold upO at e
  split at e
  · obtain ⟨es, e1, e2⟩ := bnd e
    cases e2
    exact ⟨_, es, .o1, .inl (by assumption), e1, .inl rfl, by assumption, rfl⟩
  · obtain ⟨es, e1, e2⟩ := bnd e
    cases e2
    exact ⟨_, es, .io, .inr (by assumption), e1, .inr rfl, by assumption, rfl⟩
  · cases e
theorem Sta.up {i : Nat} {h : List D → Option (List D)} (S : Sta K B O I σ H env) (e : upO i h env = some env') :
    ∃ p xs ds es, σ[i]? = some (some (.ref p)) ∧ H p = some (.lst xs) ∧ DqA K (mi H O) xs ds ∧ OwnAt env i ds ∧ h ds = some es ∧ ∀ ys, DqA K (mi H O) ys es → Sta K B O I σ (upd H p (.lst ys)) env' := by
  obtain ⟨ds, es, k, h1, h2, hk, h3, rfl⟩ := upO_of e
  obtain ⟨p, xs, s1, s2, s3, s4, s5⟩ := S.ow i ds h1
  have hi : i < env.length := (List.getElem?_eq_some_iff.mp h3).1
  refine ⟨p, xs, ds, es, s1, s3, s4, h1, h2, fun ys hy => ?_⟩
  have hm : mi (upd H p (.lst ys)) O = mi H O := mi_upd_in s2
  have own' : ∀ j gs, OwnAt (env.set i (k es)) j gs → ∃ gs', OwnAt env j gs' ∧ (j ≠ i → gs' = gs) ∧ (j = i → gs = es) := fun j gs z => by
    by_cases c : j = i
    · subst c
      refine ⟨ds, h1, fun z => absurd rfl z, fun _ => ?_⟩
      unfold OwnAt at z
      rw [List.getElem?_set_self hi] at z
      rcases hk with rfl | rfl <;> rcases z with z | z <;> cases z <;> rfl
    · exact ⟨gs, (own_set c).mp z, fun _ => rfl, fun z => absurd z c⟩
  refine ⟨by simp [S.len], fun j e hj => ?_, fun j gs hj => ?_, fun j l gs fs q hj hl e1 e2 => ?_, fun a o ha => ?_, fun q hq => ?_, fun j q hj => ?_, ?_, fun q xs hq => ?_⟩
  · rw [hm]
    by_cases c : j = i
    · subst c
      rw [List.getElem?_set_self hi] at hj
      rcases hk with rfl | rfl <;> cases hj
    · rw [List.getElem?_set_ne (Ne.symm c)] at hj
      exact S.fz j e hj
  · rw [hm]
    obtain ⟨gs', o1, o2, o3⟩ := own' j gs hj
    by_cases c : j = i
    · subst c
      rw [o3 rfl]
      exact ⟨p, ys, s1, s2, upd_same, hy, s5⟩
    · rw [← o2 c]
      obtain ⟨q, zs, k1, k2, k3, k4, k5⟩ := S.ow j gs' o1
      have nq : q ≠ p := fun z => by
        subst z
        exact c (S.sep j i gs' ds q o1 h1 k1 s1)
      exact ⟨q, zs, k1, k2, by rw [upd_ne nq]; exact k3, k4, k5⟩
  · obtain ⟨gs', o1, _⟩ := own' j gs hj
    obtain ⟨fs', o2, _⟩ := own' l fs hl
    exact S.sep j l gs' fs' q o1 o2 e1 e2
  · have na : a ≠ p := fun z => by
      subst z
      rw [ha] at s5
      cases s5
    rw [upd_ne na]
    exact S.base a o ha
  · by_cases c : q = p
    · subst c
      exact ⟨_, upd_same⟩
    · rw [upd_ne c]
      exact S.dom q hq
  · obtain ⟨k1, gs, k2⟩ := S.pin j q hj
    by_cases c : j = i
    · subst c
      rw [h3] at k2
      rcases hk with rfl | rfl
      · cases k2
      · exact ⟨k1, es, List.getElem?_set_self hi⟩
    · rw [List.getElem?_set_ne (Ne.symm c)]
      exact ⟨k1, gs, k2⟩
  · refine NwOk.go S.nw (fun j w hj => ?_) (fun j gs a hj e => ?_) (fun a g1 g2 _ g4 => ⟨g1, g2, ?_⟩) (by rw [hm]; exact Same.refl _) S.dom
    · exact ⟨(nw_set hi (fun w z => by rcases hk with rfl | rfl <;> cases z) hj).2, rfl⟩
    · obtain ⟨gs', o1, _⟩ := own' j gs hj
      exact .inl ⟨gs', o1, e⟩
    · rw [upd_ne]
      intro z
      subst z
      exact g4 i ds h1 s1
  · by_cases c : q = p
    · subst c
      rw [upd_same]
      exact fun z => by cases z
    · rw [upd_ne c]
      exact S.nt q xs hq

/-! ### targets -/
abbrev GF := D → Env → Option Env
def SndG (K : PySem.W.Frag) (g : TG) (h : GF) : Prop := ∀ B O I σ H env v d env', Sta K B O I σ H env → Dq K (mi H O) v d → h d env = some env' →
  ∀ Q : L2.St → Hp → Prop, (∀ σ', Sta K B O I σ' H env' → Q σ' H) → g v σ H Q
def SndGs (K : PySem.W.Frag) (g : TGs) (h : List D → Env → Option Env) : Prop := ∀ B O I σ H env vs ds env', Sta K B O I σ H env → DqA K (mi H O) vs ds → h ds env = some env' →
  ∀ Q : L2.St → Hp → Prop, (∀ σ', Sta K B O I σ' H env' → Q σ' H) → g vs σ H Q
def gfName (i : Nat) : GF := fun d env => putS i (.fz d) env
def gfTup (n : Nat) (h : List D → Env → Option Env) : GF := fun d env => match d with
  | .tup ds => if ds.length = n then h ds env else none
  | .nt ds => if ds.length = n then h ds env else none
  | _ => none
def gfNil : List D → Env → Option Env := fun ds env => match ds with
  | [] => some env
  | _ => none
def gfCons (g : GF) (h : List D → Env → Option Env) : List D → Env → Option Env := fun ds env => match ds with
  | d :: r => (g d env).bind fun e => h r e
  | _ => none
theorem sg_name (i : Nat) : SndG K (gName i) (gfName i) := by
  intro B O I σ H env v d env' S hd e Q q
  exact q _ (S.put hd e)
theorem sgs_nil : SndGs K gNil gfNil := by
  intro B O I σ H env v d env' S hd e Q q
  unfold gfNil at e
  split at e
  · cases e
    cases hd
    exact ⟨rfl, q _ S⟩
  · cases e
theorem sgs_cons {g : TG} {gs : TGs} {h : GF} {hs : List D → Env → Option Env} (h1 : SndG K g h) (h2 : SndGs K gs hs) : SndGs K (gCons g gs) (gfCons h hs) := by
  intro B O I σ H env v d env' S hd e Q q
  unfold gfCons at e
  split at e
  · cases hd with
    | cons d1 d2 =>
      obtain ⟨e1, e2, e3⟩ := bnd e
      exact ⟨_, _, rfl, h1 B O I σ H env _ _ e1 S d1 e2 _ fun σ1 S1 => h2 B O I σ1 H e1 _ _ env' S1 d2 e3 Q q⟩
  · cases e
theorem sg_tup {gs : TGs} {hs : List D → Env → Option Env} {n : Nat} (h2 : SndGs K gs hs) : SndG K (gTup K n gs) (gfTup n hs) := by
  intro B O I σ H env v d env' S hd e Q q
  unfold gfTup at e
  split at e
  · split at e
    · cases hd with
      | tup h1 h3 => exact ⟨_, _, rfl, sqT_mono mi_same h1, by rw [h3.length]; assumption, h2 B O I σ H env _ _ env' S h3 e Q q⟩
    · cases e
  · split at e
    · cases hd with
      | nt h1 h3 => exact ⟨_, _, rfl, .inl (.inl (mi_some h1).2), by rw [h3.length]; assumption, h2 B O I σ H env _ _ env' S h3 e Q q⟩
    · cases e
  · cases e

/-! ### statements -/
def fAsg (f : EF) (g : GF) : SFn := fun env => (f env).bind fun a => match frz a.1 with
  | .val d => (g d a.2).bind fun e => some (.nx e)
  | _ => none
theorem ss_asg {g : TG} {h : GF} (h1 : Snd K te fe) (h2 : SndG K g h) : SndS K W (tAsg te g) (fAsg fe h) := by
  intro B O I σ H env o S e D k
  obtain ⟨⟨r1, env1⟩, e1, e⟩ := bnd e
  dsimp only at e
  split at e
  · rename_i d hd
    obtain ⟨env2, e2, e⟩ := bnd e
    cases e
    refine h1 B O I σ H env r1 env1 S e1 _ fun v H1 P1 => ?_
    have P1' := P1.frz
    rw [hd] at P1'
    exact h2 B O I σ H1 env1 v d env2 P1'.1 P1'.2 e2 _ fun σ2 S2 => k O σ2 H1 .refl S2
  · cases e
def fOwn (i : Nat) (f : EF) : SFn := fun env => (f env).bind fun a => match a.1 with
  | .new ds => (putS i (.o1 ds) a.2).bind fun e => some (.nx e)
  | _ => none
theorem ss_own {i : Nat} (h1 : Snd K te fe) : SndS K W (tAsg te (gName i)) (fOwn i fe) := by
  intro B O I σ H env o S e D k
  obtain ⟨⟨r1, env1⟩, e1, e⟩ := bnd e
  dsimp only at e
  split at e
  · obtain ⟨env2, e2, e⟩ := bnd e
    cases e
    refine h1 B O I σ H env _ env1 S e1 _ fun v H1 P1 => ?_
    obtain ⟨O', s, S2⟩ := Sta.owned P1 e2
    exact k O' _ H1 s S2
  · cases e
def fPar (i j : Nat) (fa : AF) : SFn := fun env => (fa env).bind fun a => (allVal a.1).bind fun ds => match ds with
  | [d, e] => (putS i (.fz d) a.2).bind fun e1 => (putS j (.fz e) e1).bind fun e2 => some (.nx e2)
  | _ => none
theorem ss_par {i j : Nat} {t : TA} {fa : AF} (h1 : SndA K t fa) : SndS K W (tPar i j t) (fPar i j fa) := by
  intro B O I σ H env o S e D k
  obtain ⟨⟨r1, env1⟩, e1, e⟩ := bnd e
  obtain ⟨ds, e2, e⟩ := bnd e
  dsimp only at e2 e
  split at e
  · obtain ⟨env2, e3, e⟩ := bnd e
    obtain ⟨env3, e4, e⟩ := bnd e
    cases e
    refine h1 B O I σ H env r1 env1 S e1 _ fun vs H1 S1 P1 => ?_
    have q := post_vals P1 e2
    cases q with
    | cons q1 q2 =>
      cases q2 with
      | cons q2 q3 =>
        cases q3
        exact ⟨_, _, rfl, k O _ H1 .refl ((S1.put q1 e3).put q2 e4)⟩
  · cases e
def fDrop (f : EF) : SFn := fun env => (f env).bind fun a => some (.nx a.2)
theorem ss_drop (h1 : Snd K te fe) : SndS K W (tDrop te) (fDrop fe) := by
  intro B O I σ H env o S e D k
  obtain ⟨⟨r1, env1⟩, e1, e⟩ := bnd e
  cases e
  exact h1 B O I σ H env r1 env1 S e1 _ fun v H1 P1 => k O σ H1 .refl P1.sta
def fRet (f : EF) : SFn := fun env => (f env).bind fun a => some (.rt a.1 a.2)
theorem ss_ret (h1 : Snd K te fe) : SndS K W (tRet te) (fRet fe) := by
  intro B O I σ H env o S e D k
  obtain ⟨⟨r1, env1⟩, e1, e⟩ := bnd e
  cases e
  exact h1 B O I σ H env r1 env1 S e1 _ fun v H1 P1 => k.rt .refl P1
def fNext : SFn := fun env => some (.nx env)
theorem ss_next : SndS K W tNext fNext := by
  intro B O I σ H env o S e D k
  cases e
  exact k O σ H .refl S
def fBreak : SFn := fun env => some (.bk env)
theorem ss_break : SndS K W tBreak fBreak := by
  intro B O I σ H env o S e D k
  cases e
  exact k O σ H .refl S
def fCont : SFn := fun env => some (.ct env)
theorem ss_cont : SndS K W tCont fCont := by
  intro B O I σ H env o S e D k
  cases e
  exact k O σ H .refl S
def fSeq (g h : SFn) : SFn := fun env => (g env).bind fun o => match o with
  | .nx e => h e
  | o => some o
theorem ss_seq {t u : TS} {g h : SFn} (h1 : SndS K W t g) (h2 : SndS K W u h) : SndS K W (tSeq t u) (fSeq g h) := by
  intro B O I σ H env o S e D k
  obtain ⟨o1, e1, e⟩ := bnd e
  refine h1 B O I σ H env o1 S e1 _ ?_
  cases o1 with
  | nx e2 => exact fun O2 σ2 H2 s S2 => h2 B O2 I σ2 H2 e2 o S2 e D (k.sub s)
  | rt r e2 => cases e; exact k.ret fun _ _ z => z
  | bk e2 => cases e; exact k
  | ct e2 => cases e; exact k
def fIf (c : TF) (g h : SFn) : SFn := fun env => (c env).bind fun b => if b.1 then g b.2 else h b.2
theorem ss_if {c : TT} {fc : TF} {t u : TS} {g h : SFn} (hc : SndT K c fc) (h1 : SndS K W t g) (h2 : SndS K W u h) : SndS K W (tIfS c t u) (fIf fc g h) := by
  intro B O I σ H env o S e D k
  obtain ⟨⟨b, env1⟩, e1, e⟩ := bnd e
  refine hc B O I σ H env b env1 S e1 _ fun H1 S1 => ?_
  cases b with
  | true =>
    rw [if_pos rfl]
    exact h1 B O I σ H1 env1 o S1 e D k
  | false =>
    rw [if_neg Bool.false_ne_true]
    exact h2 B O I σ H1 env1 o S1 e D k
/-! ### while -/
def whileN (c : TF) (b : SFn) : Nat → SFn
  | 0, _ => none
  | n + 1, env => (c env).bind fun p => if p.1 then (b p.2).bind fun o => match o with
      | .nx e => whileN c b n e
      | .ct e => whileN c b n e
      | .bk e => some (.nx e)
      | .rt r e => some (.rt r e)
    else some (.nx p.2)
def fWhile (fuel : Env → Nat) (c : TF) (b : SFn) : SFn := fun env => whileN c b (fuel env) env
theorem ss_while {c : TT} {fc : TF} {t : TS} {g : SFn} {fuel : Env → Nat} (hc : SndT K c fc) (h1 : SndS K W t g) : SndS K W (tWhile c t) (fWhile fuel fc g) := by
  intro B O I σ H env o S e D k
  refine ⟨fun m σ H => ∃ O' env, Sub B I O O' ∧ Sta K B O' I σ H env ∧ whileN fc g m env = some o, ⟨_, O, env, .refl, S, e⟩, fun m σ H ⟨O1, env1, s1, S1, e1⟩ => ?_⟩
  cases m with
  | zero => cases e1
  | succ n =>
    obtain ⟨⟨b, env2⟩, e2, e3⟩ := bnd e1
    refine hc B O1 I σ H env1 b env2 S1 e2 _ fun H2 S2 => ?_
    cases b with
    | false =>
      rw [if_neg Bool.false_ne_true]
      cases e3
      exact k O1 σ H2 s1 S2
    | true =>
      rw [if_pos rfl]
      obtain ⟨o2, e4, e5⟩ := bnd e3
      refine ⟨fun σ' H' => ∃ O' env, Sub B I O O' ∧ Sta K B O' I σ' H' env ∧ whileN fc g n env = some o, fun σ' H' z => ⟨n, Nat.lt_succ_self n, z⟩, ?_⟩
      refine h1 B O1 I σ H2 env2 o2 S2 e4 _ ?_
      cases o2 with
      | nx e6 => exact fun O3 σ3 H3 s3 S3 => ⟨O3, e6, s1.trans s3, S3, e5⟩
      | ct e6 => exact fun O3 σ3 H3 s3 S3 => ⟨O3, e6, s1.trans s3, S3, e5⟩
      | bk e6 => cases e5; exact k.sub s1
      | rt r e6 => cases e5; exact OutOk.ret (OutOk.sub s1 k) fun _ _ z => z
end
end Dv

namespace Dv
open PySem L2

def IterOk (K : PySem.W.Frag) (G0 : Hp) (J : It) (items : List D) : Prop := ∀ (H : Hp) (O : List Addr), Same G0 (mi H O) → (∀ p, p ∈ O → ∃ o, H p = some o) →
  (∀ i, i < items.length → J.go i H) ∧ J.stop items.length H ∧ ∀ i d x H', items[i]? = some d → J.yld i H x H' → Same H H' ∧ Dq K (mi H' O) x d
abbrev IF := Env → Option (List D × Env)
def SndI (K : PySem.W.Frag) (wi : TI) (f : IF) : Prop := ∀ B O I σ H env items env', Sta K B O I σ H env → f env = some (items, env') →
  ∀ R : It → Hp → Prop, (∀ J H', Sta K B O I σ H' env' → IterOk K (mi H' O) J items → R J H') → wi σ H R

section
variable {K : PySem.W.Frag} {B : Hp} {O : List Addr} {I : List (Nat × Addr)} {σ : L2.St} {H H' : Hp} {env env' : Env} {v : V} {t ta tb te : TE} {f fa fb fe : EF} {W : WN}
theorem not_dom {p : Addr} (hd : ∀ p, p ∈ O → ∃ o, H p = some o) (hp : H p = none) : p ∉ O := fun z => by
  obtain ⟨o, e⟩ := hd p z
  rw [hp] at e
  cases e
/-- range -/
def rangeD (lo : Int) (n : Nat) : List D := (List.range n).map fun k => D.int (lo + (k : Nat))
def rangeC (lo c : Int) (n : Nat) : List D := (List.range n).map fun k => D.int (lo + (k : Nat) * c)
theorem iter_range {lo : Int} {n : Nat} {G : Hp} : IterOk K G (Itr lo n) (rangeD lo n) := by
  intro H O _ _
  have hl : (rangeD lo n).length = n := by simp [rangeD]
  refine ⟨fun i h => by rw [hl] at h; exact h, by rw [hl]; exact Nat.le_refl n, fun i d x H' hi hy => ?_⟩
  obtain ⟨rfl, rfl⟩ := hy
  refine ⟨Same.refl _, ?_⟩
  unfold rangeD at hi
  rw [List.getElem?_map] at hi
  obtain ⟨k, h1, h2⟩ := Option.map_eq_some_iff.mp hi
  rw [List.getElem?_range] at h1
  · cases h1
    rw [← h2]
    exact .int _
  · apply Classical.byContradiction
    intro z
    rw [List.getElem?_eq_none (by simpa using z)] at h1
    cases h1
theorem iter_rangeC {lo c : Int} {n : Nat} {G : Hp} : IterOk K G (Itc lo c n) (rangeC lo c n) := by
  intro H O _ _
  have hl : (rangeC lo c n).length = n := by simp [rangeC]
  refine ⟨fun i h => by rw [hl] at h; exact h, by rw [hl]; exact Nat.le_refl n, fun i d x H' hi hy => ?_⟩
  obtain ⟨rfl, rfl⟩ := hy
  refine ⟨Same.refl _, ?_⟩
  unfold rangeC at hi
  rw [List.getElem?_map] at hi
  obtain ⟨k, h1, h2⟩ := Option.map_eq_some_iff.mp hi
  rw [List.getElem?_range] at h1
  · cases h1
    rw [← h2]
    exact .int _
  · apply Classical.byContradiction
    intro z
    rw [List.getElem?_eq_none (by simpa using z)] at h1
    cases h1
def fRange1 (fa : AF) : IF := fun env => (fa env).bind fun a => (allVal a.1).bind fun ds => match ds with
  | [.int j] => if -1000000000000 ≤ j ∧ j ≤ 1000000000000 then some (rangeD 0 j.toNat, a.2) else none
  | _ => none
def fRange2 (fa : AF) : IF := fun env => (fa env).bind fun a => (allVal a.1).bind fun ds => match ds with
  | [.int i, .int j] => if -1000000000000 ≤ i ∧ i ≤ 1000000000000 ∧ -1000000000000 ≤ j ∧ j ≤ 1000000000000 then some (rangeD i (j - i).toNat, a.2) else none
  | _ => none
def fRange3 (fa : AF) : IF := fun env => (fa env).bind fun a => (allVal a.1).bind fun ds => match ds with
  | [.int i, .int j, .int c] => if c ≠ 0 ∧ c.natAbs < 1073741824 ∧ Builtin.Range.small i j c = true ∧ 0 ≤ Builtin.Range.rangeSize i j c then some (rangeC i c (Builtin.Range.rangeSize i j c).toNat, a.2) else none
  | _ => none
theorem si_range1 {t : TA} {fa : AF} (h : SndA K t fa) : SndI K (iRng1 t) (fRange1 fa) := by
  intro B O I σ H env items env' S e R q
  obtain ⟨⟨r1, env1⟩, e1, e⟩ := bnd e
  obtain ⟨ds, e2, e⟩ := bnd e
  dsimp only at e2 e
  split at e
  · split at e
    · cases e
      refine h B O I σ H env r1 _ S e1 _ fun vs H1 S1 P1 => ?_
      have k := post_vals P1 e2
      cases k with
      | cons k1 k2 =>
        cases k1
        cases k2
        exact ⟨_, rfl, by omega, by omega, q _ H1 S1 iter_range⟩
    · cases e
  · cases e
theorem si_range2 {t : TA} {fa : AF} (h : SndA K t fa) : SndI K (iRng2 t) (fRange2 fa) := by
  intro B O I σ H env items env' S e R q
  obtain ⟨⟨r1, env1⟩, e1, e⟩ := bnd e
  obtain ⟨ds, e2, e⟩ := bnd e
  dsimp only at e2 e
  split at e
  · split at e
    · cases e
      refine h B O I σ H env r1 _ S e1 _ fun vs H1 S1 P1 => ?_
      have k := post_vals P1 e2
      cases k with
      | cons k1 k2 =>
        cases k1
        cases k2 with
        | cons k2 k3 =>
          cases k2
          cases k3
          exact ⟨_, _, rfl, ⟨by omega, by omega, by omega, by omega⟩, q _ H1 S1 iter_range⟩
    · cases e
  · cases e
theorem si_range3 {t : TA} {fa : AF} (h : SndA K t fa) : SndI K (iRng3 t) (fRange3 fa) := by
  intro B O I σ H env items env' S e R q
  obtain ⟨⟨r1, env1⟩, e1, e⟩ := bnd e
  obtain ⟨ds, e2, e⟩ := bnd e
  dsimp only at e2 e
  split at e
  · split at e
    · rename_i hc
      cases e
      refine h B O I σ H env r1 _ S e1 _ fun vs H1 S1 P1 => ?_
      have k := post_vals P1 e2
      cases k with
      | cons k1 k2 =>
        cases k1
        cases k2 with
        | cons k2 k3 =>
          cases k2
          cases k3 with
          | cons k3 k4 =>
            cases k3
            cases k4
            exact ⟨_, _, _, _, rfl, ⟨hc.1, hc.2.1, hc.2.2.1, (Int.toNat_of_nonneg hc.2.2.2).symm⟩, q _ H1 S1 iter_rangeC⟩
    · cases e
  · cases e
/-- a list that stays; a tuple -/
theorem sqL_get {G : Hp} {a : Addr} {xs ys : List V} (h : G a = some (.lst xs)) (k : SqL K G a ys) : True := trivial
def fIterL (f : EF) : IF := fun env => (f env).bind fun a => match frz a.1 with
  | .val (.lst ds) => some (ds, a.2)
  | _ => none
def fIterT (f : EF) : IF := fun env => (f env).bind fun a => match frz a.1 with
  | .val (.tup ds) => some (ds, a.2)
  | .val (.nt ds) => some (ds, a.2)
  | _ => none
theorem iter_list {G : Hp} {a : Addr} {xs : List V} {ds : List D} (h : G a = some (.lst xs)) (k : DqA K G xs ds) : IterOk K G (Itl K a) ds := by
  intro H O s hd
  have hs : SqL K H a xs := .inl (.inl (mi_same _ _ (s _ _ h)))
  refine ⟨fun i hi => ?_, ⟨xs, hs, by rw [k.length]; exact Nat.le_refl _⟩, fun i d x H' hi hy => ?_⟩
  · obtain ⟨v, h1, _⟩ := k.get (List.getElem?_eq_getElem hi)
    exact ⟨xs, v, hs, h1⟩
  · obtain ⟨rfl, hx⟩ := hy
    obtain ⟨v, h1, h2⟩ := k.get hi
    have := hx xs hs
    rw [h1] at this
    cases this
    exact ⟨Same.refl _, Dq.mono s _ _ h2⟩
theorem iter_tup {G : Hp} {a : Addr} {xs : List V} {ds : List D} (h : SqT K G a xs) (k : DqA K G xs ds) : IterOk K G (Itt K a) ds := by
  intro H O s hd
  have hs : SqT K H a xs := sqT_mono mi_same (sqT_mono s h)
  refine ⟨fun i hi => ?_, ⟨xs, hs, by rw [k.length]; exact Nat.le_refl _⟩, fun i d x H' hi hy => ?_⟩
  · obtain ⟨v, h1, _⟩ := k.get (List.getElem?_eq_getElem hi)
    exact ⟨xs, v, hs, h1⟩
  · obtain ⟨rfl, hx⟩ := hy
    obtain ⟨v, h1, h2⟩ := k.get hi
    have := hx xs hs
    rw [h1] at this
    cases this
    exact ⟨Same.refl _, Dq.mono s _ _ h2⟩
theorem si_list (h : Snd K t f) : SndI K (iList K t) (fIterL f) := by
  intro B O I σ H env items env' S e R q
  obtain ⟨⟨r1, env1⟩, e1, e⟩ := bnd e
  dsimp only at e
  split at e
  · cases e
    rename_i hr
    refine h B O I σ H env r1 _ S e1 _ fun v H1 P1 => ?_
    have P := P1.frz
    rw [hr] at P
    obtain ⟨S1, d1⟩ := P
    cases d1 with
    | lst h1 h2 => exact ⟨_, rfl, ⟨_, .inl (.inl (mi_some h1).2)⟩, q _ H1 S1 (iter_list h1 h2)⟩
  · cases e
theorem si_tup (h : Snd K t f) : SndI K (iTup K t) (fIterT f) := by
  intro B O I σ H env items env' S e R q
  obtain ⟨⟨r1, env1⟩, e1, e⟩ := bnd e
  dsimp only at e
  split at e
  · cases e
    rename_i hr
    refine h B O I σ H env r1 _ S e1 _ fun v H1 P1 => ?_
    have P := P1.frz
    rw [hr] at P
    obtain ⟨S1, d1⟩ := P
    cases d1 with
    | tup h1 h2 => exact ⟨_, rfl, ⟨_, sqT_mono mi_same h1⟩, q _ H1 S1 (iter_tup h1 h2)⟩
  · cases e
    rename_i hr
    refine h B O I σ H env r1 _ S e1 _ fun v H1 P1 => ?_
    have P := P1.frz
    rw [hr] at P
    obtain ⟨S1, d1⟩ := P
    cases d1 with
    | nt h1 h2 => exact ⟨_, rfl, ⟨_, .inl (.inl (mi_some h1).2)⟩, q _ H1 S1 (iter_tup (.inl (.inl h1)) h2)⟩
  · cases e
/-- enumerate, zip, reversed of lists that stay -/
def enumD : Nat → List D → List D
  | _, [] => []
  | k, d :: ds => .tup [.int (k : Nat), d] :: enumD (k + 1) ds
theorem enumD_get : ∀ (ds : List D) (k i : Nat) (e : D), (enumD k ds)[i]? = some e → ∃ d, ds[i]? = some d ∧ e = .tup [.int ((k + i : Nat) : Int), d]
  | [], _, _, _, h => by simp [enumD] at h
  | d :: ds, k, 0, e, h => by
    simp [enumD] at h
    exact ⟨d, rfl, h.symm⟩
  | d :: ds, k, i + 1, e, h => by
    obtain ⟨d', h1, h2⟩ := enumD_get ds (k + 1) i e (by simpa [enumD] using h)
    exact ⟨d', by simpa using h1, by rw [h2]; congr 4; omega⟩
theorem enumD_len : ∀ (ds : List D) (k : Nat), (enumD k ds).length = ds.length
  | [], _ => rfl
  | d :: ds, k => by simp [enumD, enumD_len ds]
def zipD : List D → List D → List D
  | a :: as, b :: bs => .tup [a, b] :: zipD as bs
  | _, _ => []
theorem zipD_get : ∀ (as bs : List D) (i : Nat) (e : D), (zipD as bs)[i]? = some e → ∃ a b, as[i]? = some a ∧ bs[i]? = some b ∧ e = .tup [a, b]
  | [], _, _, _, h => by simp [zipD] at h
  | _ :: _, [], _, _, h => by simp [zipD] at h
  | a :: as, b :: bs, 0, e, h => by
    simp [zipD] at h
    exact ⟨a, b, rfl, rfl, h.symm⟩
  | a :: as, b :: bs, i + 1, e, h => by
    obtain ⟨x, y, h1, h2, h3⟩ := zipD_get as bs i e (by simpa [zipD] using h)
    exact ⟨x, y, by simpa using h1, by simpa using h2, h3⟩
theorem zipD_len : ∀ (as bs : List D), (zipD as bs).length = min as.length bs.length
  | [], _ => by simp [zipD]
  | _ :: _, [] => by simp [zipD]
  | a :: as, b :: bs => by
    simp only [zipD, List.length_cons, zipD_len as bs]
    omega
theorem iter_enum {G : Hp} {a : Addr} {xs : List V} {ds : List D} (h : G a = some (.lst xs)) (k : DqA K G xs ds) : IterOk K G (Ite K a) (enumD 0 ds) := by
  intro H O s hd
  have hs : SqL K H a xs := .inl (.inl (mi_same _ _ (s _ _ h)))
  rw [enumD_len]
  refine ⟨fun i hi => ?_, ⟨xs, hs, by rw [k.length]; exact Nat.le_refl _⟩, fun i d x H' hi hy => ?_⟩
  · obtain ⟨v, h1, _⟩ := k.get (List.getElem?_eq_getElem hi)
    exact ⟨xs, v, hs, h1⟩
  · obtain ⟨T, y, rfl, hT, rfl, hx⟩ := hy
    obtain ⟨d', g1, g2⟩ := enumD_get ds 0 i d hi
    obtain ⟨v, h1, h2⟩ := k.get g1
    have := hx xs hs
    rw [h1] at this
    cases this
    have sm : Same H (upd H T (.tup [.int (i : Nat), y])) := same_new hT
    refine ⟨sm, ?_⟩
    subst g2
    rw [Nat.zero_add]
    exact .tup (.inl (.inl (mi_of (not_dom hd hT) upd_same))) (.cons (.int _) (.cons (Dq.mono (mi_mono sm) _ _ (Dq.mono s _ _ h2)) .nil))
theorem iter_zip {G : Hp} {a b : Addr} {xs ys : List V} {ds es : List D} (h : G a = some (.lst xs)) (k : DqA K G xs ds) (h' : G b = some (.lst ys)) (k' : DqA K G ys es) : IterOk K G (Itz K a b) (zipD ds es) := by
  intro H O s hd
  have hs : SqL K H a xs := .inl (.inl (mi_same _ _ (s _ _ h)))
  have hs' : SqL K H b ys := .inl (.inl (mi_same _ _ (s _ _ h')))
  rw [zipD_len]
  refine ⟨fun i hi => ?_, ⟨xs, ys, hs, hs', by rw [k.length, k'.length]; omega⟩, fun i d x H' hi hy => ?_⟩
  · obtain ⟨v, h1, _⟩ := k.get (List.getElem?_eq_getElem (show i < ds.length by omega))
    obtain ⟨w, h2, _⟩ := k'.get (List.getElem?_eq_getElem (show i < es.length by omega))
    exact ⟨xs, ys, v, w, hs, hs', h1, h2⟩
  · obtain ⟨T, y, z, rfl, hT, rfl, hx, hz⟩ := hy
    obtain ⟨d1, d2, g1, g2, g3⟩ := zipD_get ds es i d hi
    obtain ⟨v, h1, h2⟩ := k.get g1
    obtain ⟨w, h3, h4⟩ := k'.get g2
    have q1 := hx xs hs
    have q2 := hz ys hs'
    rw [h1] at q1
    rw [h3] at q2
    cases q1
    cases q2
    have sm : Same H (upd H T (.tup [y, z])) := same_new hT
    refine ⟨sm, ?_⟩
    subst g3
    exact .tup (.inl (.inl (mi_of (not_dom hd hT) upd_same))) (.cons (Dq.mono (mi_mono sm) _ _ (Dq.mono s _ _ h2)) (.cons (Dq.mono (mi_mono sm) _ _ (Dq.mono s _ _ h4)) .nil))
theorem iter_rev {G : Hp} {a : Addr} {xs : List V} {ds : List D} (h : G a = some (.lst xs)) (k : DqA K G xs ds) : IterOk K G (Itv K a xs.length) ds.reverse := by
  intro H O s hd
  have hs : SqL K H a xs := .inl (.inl (mi_same _ _ (s _ _ h)))
  rw [List.length_reverse, ← k.length]
  refine ⟨fun i hi => ⟨hi, ?_⟩, Nat.le_refl _, fun i d x H' hi hy => ?_⟩
  · exact ⟨xs, xs[xs.length - 1 - i], hs, List.getElem?_eq_getElem (by omega)⟩
  · obtain ⟨rfl, hx⟩ := hy
    have hi' : i < ds.length := by
      have := (List.getElem?_eq_some_iff.mp hi).1
      simpa using this
    rw [List.getElem?_reverse hi', ← k.length] at hi
    obtain ⟨v, h1, h2⟩ := k.get hi
    have := hx xs hs
    rw [h1] at this
    cases this
    exact ⟨Same.refl _, Dq.mono s _ _ h2⟩
def fEnum (fa : AF) : IF := fun env => (fa env).bind fun a => (allVal a.1).bind fun ds => match ds with
  | [.lst ds] => some (enumD 0 ds, a.2)
  | _ => none
def fZip (fa : AF) : IF := fun env => (fa env).bind fun a => (allVal a.1).bind fun ds => match ds with
  | [.lst ds, .lst es] => some (zipD ds es, a.2)
  | _ => none
def fRev (fa : AF) : IF := fun env => (fa env).bind fun a => (allVal a.1).bind fun ds => match ds with
  | [.lst ds] => some (ds.reverse, a.2)
  | _ => none
theorem si_enum {t : TA} {fa : AF} (h : SndA K t fa) : SndI K (iEnum K t) (fEnum fa) := by
  intro B O I σ H env items env' S e R q
  obtain ⟨⟨r1, env1⟩, e1, e⟩ := bnd e
  obtain ⟨ds, e2, e⟩ := bnd e
  dsimp only at e2 e
  split at e
  · cases e
    refine h B O I σ H env r1 _ S e1 _ fun vs H1 S1 P1 => ?_
    have k := post_vals P1 e2
    cases k with
    | cons k1 k2 =>
      cases k2
      cases k1 with
      | lst g1 g2 => exact ⟨_, _, rfl, .inl (.inl (mi_some g1).2), q _ H1 S1 (iter_enum g1 g2)⟩
  · cases e
theorem si_zip {t : TA} {fa : AF} (h : SndA K t fa) : SndI K (iZip K t) (fZip fa) := by
  intro B O I σ H env items env' S e R q
  obtain ⟨⟨r1, env1⟩, e1, e⟩ := bnd e
  obtain ⟨ds, e2, e⟩ := bnd e
  dsimp only at e2 e
  split at e
  · cases e
    refine h B O I σ H env r1 _ S e1 _ fun vs H1 S1 P1 => ?_
    have k := post_vals P1 e2
    cases k with
    | cons k1 k2 =>
      cases k2 with
      | cons k2 k3 =>
        cases k3
        cases k1 with
        | lst g1 g2 =>
          cases k2 with
          | lst g3 g4 => exact ⟨_, _, _, _, rfl, .inl (.inl (mi_some g1).2), .inl (.inl (mi_some g3).2), q _ H1 S1 (iter_zip g1 g2 g3 g4)⟩
  · cases e
theorem si_rev {t : TA} {fa : AF} (h : SndA K t fa) : SndI K (iRev K t) (fRev fa) := by
  intro B O I σ H env items env' S e R q
  obtain ⟨⟨r1, env1⟩, e1, e⟩ := bnd e
  obtain ⟨ds, e2, e⟩ := bnd e
  dsimp only at e2 e
  split at e
  · cases e
    refine h B O I σ H env r1 _ S e1 _ fun vs H1 S1 P1 => ?_
    have k := post_vals P1 e2
    cases k with
    | cons k1 k2 =>
      cases k2
      cases k1 with
      | lst g1 g2 => exact ⟨_, _, rfl, .inl (.inl (mi_some g1).2), q _ H1 S1 (iter_rev g1 g2)⟩
  · cases e
/-! ### for -/
def loopN (g : GF) (b : SFn) : List D → SFn
  | [], env => some (.nx env)
  | d :: ds, env => (g d env).bind fun e => (b e).bind fun o => match o with
    | .nx e => loopN g b ds e
    | .ct e => loopN g b ds e
    | .bk e => some (.nx e)
    | .rt r e => some (.rt r e)
def fFor (fi : IF) (g : GF) (b : SFn) : SFn := fun env => (fi env).bind fun a => loopN g b a.1 a.2
/-- what stayed at the start stays behind what a turn does -/
theorem stays {O' : List Addr} {σ' : L2.St} {env2 : Env} (S : Sta K B O I σ H env) (s : Sub (keepH σ env H) I O O') (S' : Sta K (keepH σ env H) O' I σ' H' env2) : Same (mi H O) (mi H' O') := fun a o h => by
  obtain ⟨h1, h2⟩ := mi_some h
  have hb : keepH σ env H a = some o := by
    rw [keepH_not (fun z => h1 (S.owns_in z))]
    exact h2
  refine mi_of (fun z => ?_) (S'.base a o hb)
  rcases s.2 a z with y | y
  · exact h1 y
  · rw [hb] at y
    cases y
theorem ss_for {wi : TI} {fi : IF} {g : TG} {h : GF} {tb : TS} {b : SFn} (hi : SndI K wi fi) (hg : SndG K g h) (hb : SndS K W tb b) : SndS K W (tFor wi g tb) (fFor fi h b) := by
  intro B O I σ H env o S e D k
  obtain ⟨⟨items, env1⟩, e1, e⟩ := bnd e
  refine hi B O I σ H env items env1 S e1 _ fun J H1 S1 it => ?_
  have k2 : OutOk K W (keepH σ env1 H1) O I D o := k.strong S1.base_keep
  refine ⟨fun i m σ' H' => ∃ O' env', Sub (keepH σ env1 H1) I O O' ∧ Sta K (keepH σ env1 H1) O' I σ' H' env' ∧ i + m = items.length ∧ loopN h b (items.drop i) env' = some o,
    ⟨items.length, O, env1, .refl, S1.strong, by omega, by simpa using e⟩, fun i m σ' H' ⟨O', env2, s2, S2, em, e2⟩ => ?_⟩
  have fz := stays S1 s2 S2
  obtain ⟨i1, i2, i3⟩ := it H' O' fz S2.dom
  cases m with
  | zero =>
    have ei : i = items.length := by omega
    subst ei
    rw [List.drop_length] at e2
    cases e2
    exact .inl ⟨i2, k2 O' σ' H' s2 S2⟩
  | succ m =>
    have hi : i < items.length := by omega
    rw [List.drop_eq_getElem_cons hi] at e2
    obtain ⟨env3, e3, e4⟩ := bnd e2
    obtain ⟨o2, e5, e6⟩ := bnd e4
    refine .inr ⟨i1 i hi, fun σ3 H3 => ∃ O3 env3, Sub (keepH σ env1 H1) I O O3 ∧ Sta K (keepH σ env1 H1) O3 I σ3 H3 env3 ∧ loopN h b (items.drop (i + 1)) env3 = some o, fun σ3 H3 ⟨O3, env3, s3, S3, q3⟩ => ⟨m, by omega, O3, env3, s3, S3, by omega, q3⟩, fun x H3 hy => ?_⟩
    obtain ⟨sm, dx⟩ := i3 i _ x H3 (List.getElem?_eq_getElem hi) hy
    refine hg _ O' I σ' H3 env2 x _ env3 (S2.grow sm) dx e3 _ fun σ4 S4 => ?_
    refine hb _ O' I σ4 H3 env3 o2 S4 e5 _ ?_
    cases o2 with
    | nx e7 => exact fun O5 σ5 H5 s5 S5 => ⟨O5, e7, s2.trans s5, S5, e6⟩
    | ct e7 => exact fun O5 σ5 H5 s5 S5 => ⟨O5, e7, s2.trans s5, S5, e6⟩
    | bk e7 => cases e6; exact k2.sub s2
    | rt r e7 => cases e6; exact OutOk.ret (OutOk.sub s2 k2) fun _ _ z => z
end
end Dv

namespace Dv
open PySem L2

section
variable {K : PySem.W.Frag} {B : Hp} {O : List Addr} {I : List (Nat × Addr)} {σ : L2.St} {H H' : Hp} {env env' : Env} {v : V} {t ta tb te : TE} {f fa fb fe : EF} {W : WN}
/-! ### comprehensions -/
theorem wipe_get {i : Nat} : ∀ {vs : List Nat}, i ∉ vs → (wipe σ vs)[i]? = σ[i]?
  | [], _ => rfl
  | v :: vs, h => by
    unfold wipe
    have h1 : v ≠ i := fun e => h (by rw [e]; exact List.mem_cons_self)
    rw [List.getElem?_set_ne h1]
    exact wipe_get fun z => h (List.mem_cons_of_mem _ z)
theorem wipe_in {i : Nat} : ∀ {vs : List Nat}, i ∈ vs → i < σ.length → (wipe σ vs)[i]? = some none
  | [], h, _ => by cases h
  | v :: vs, h, hl => by
    unfold wipe
    by_cases c : v = i
    · subst c
      rw [List.getElem?_set_self (by rw [wipe_length]; exact hl)]
    · rw [List.getElem?_set_ne c]
      exact wipe_in ((List.mem_cons.mp h).resolve_left (Ne.symm c)) hl
theorem wipe_ext {σ σ' : L2.St} {vs : List Nat} (hl : σ.length = σ'.length) (h : ∀ i, i ∉ vs → σ[i]? = σ'[i]?) : wipe σ vs = wipe σ' vs := by
  apply List.ext_getElem?
  intro i
  by_cases c : i ∈ vs
  · by_cases d : i < σ.length
    · rw [wipe_in c d, wipe_in c (hl ▸ d)]
    · rw [List.getElem?_eq_none (by rw [wipe_length]; omega), List.getElem?_eq_none (by rw [wipe_length]; omega)]
  · rw [wipe_get c, wipe_get c, h i c]
theorem wipe_idem {vs : List Nat} : wipe (wipe σ vs) vs = wipe σ vs := wipe_ext (wipe_length σ vs) fun i h => wipe_get h
theorem wipe_set {i : Nat} {x : Option V} {vs : List Nat} (h : i ∈ vs) : wipe (σ.set i x) vs = wipe σ vs :=
  wipe_ext (by simp) fun j hj => by
    rw [List.getElem?_set_ne]
    intro e
    subst e
    exact hj h
def wipeO : List Nat → Env → Option Env
  | [], env => some env
  | v :: vs, env => (wipeO vs env).bind fun e => putS v .no e
theorem Sta.wipe : ∀ {vs : List Nat} {env env' : Env}, Sta K B O I σ H env → wipeO vs env = some env' → Sta K B O I (L2.wipe σ vs) H env'
  | [], _, _, S, e => by cases e; exact S
  | v :: vs, env, env', S, e => by
    obtain ⟨e1, h1, h2⟩ := bnd e
    exact (Sta.wipe (vs := vs) S h1).drop h2
def keepFz : Option SV → SV
  | some (.fz d) => .fz d
  | _ => .no
def restE (e0 : Env) : List Nat → Env → Env
  | [], e => e
  | v :: vs, e => (restE e0 vs e).set v (keepFz e0[v]?)
theorem restE_len {e0 : Env} : ∀ {vs : List Nat} {e : Env}, (restE e0 vs e).length = e.length
  | [], _ => rfl
  | v :: vs, e => by unfold restE; rw [List.length_set, restE_len]
theorem restE_not {e0 e : Env} {i : Nat} : ∀ {vs : List Nat}, i ∉ vs → (restE e0 vs e)[i]? = e[i]?
  | [], _ => rfl
  | v :: vs, h => by
    unfold restE
    have h1 : v ≠ i := fun z => h (by rw [z]; exact List.mem_cons_self)
    rw [List.getElem?_set_ne h1]
    exact restE_not fun z => h (List.mem_cons_of_mem _ z)
theorem restE_in {e0 e : Env} {i : Nat} : ∀ {vs : List Nat}, i ∈ vs → i < e.length → (restE e0 vs e)[i]? = some (keepFz e0[i]?)
  | [], h, _ => by cases h
  | v :: vs, h, hl => by
    unfold restE
    by_cases c : v = i
    · subst c
      rw [List.getElem?_set_self (by rw [restE_len]; exact hl)]
    · rw [List.getElem?_set_ne c]
      exact restE_in ((List.mem_cons.mp h).resolve_left (Ne.symm c)) hl
theorem Sta.rest {vs : List Nat} {B' : Hp} {H1 : Hp} {e1 : Env} (S1 : Sta K B' O I σ H1 e1) (S : Sta K B O I (L2.wipe σ vs) H env) (fz : Same (mi H1 O) (mi H O)) : Sta K B O I σ H (restE e1 vs env) := by
  have own' : ∀ j ds, OwnAt (restE e1 vs env) j ds → j ∉ vs ∧ OwnAt env j ds := fun j ds z => by
    by_cases c : j ∈ vs
    · by_cases d : j < env.length
      · unfold OwnAt at z
        rw [restE_in c d] at z
        unfold keepFz at z
        rcases z with z | z <;> split at z <;> cases z
      · unfold OwnAt at z
        rw [List.getElem?_eq_none (by rw [restE_len]; omega)] at z
        rcases z with z | z <;> cases z
    · unfold OwnAt at z ⊢
      rw [restE_not c] at z
      exact ⟨c, z⟩
  refine ⟨by rw [restE_len, ← S.len, wipe_length], fun j d hj => ?_, fun j ds hj => ?_, fun j k ds es p hj hk a b => ?_, S.base, S.dom, fun j p hj => ?_, ?_, S.nt⟩
  · by_cases c : j ∈ vs
    · by_cases d : j < env.length
      · rw [restE_in c d] at hj
        unfold keepFz at hj
        split at hj
        · cases hj
          obtain ⟨v, h1, h2⟩ := S1.fz j _ (by assumption)
          exact ⟨v, h1, Dq.mono fz _ _ h2⟩
        · cases hj
      · rw [List.getElem?_eq_none (by rw [restE_len]; omega)] at hj
        cases hj
    · rw [restE_not c] at hj
      obtain ⟨v, h1, h2⟩ := S.fz j d hj
      rw [wipe_get c] at h1
      exact ⟨v, h1, h2⟩
  · obtain ⟨c, z⟩ := own' j ds hj
    obtain ⟨p, xs, h1, h2⟩ := S.ow j ds z
    rw [wipe_get c] at h1
    exact ⟨p, xs, h1, h2⟩
  · obtain ⟨c, z⟩ := own' j ds hj
    obtain ⟨c', z'⟩ := own' k es hk
    exact S.sep j k ds es p z z' (by rw [wipe_get c]; exact a) (by rw [wipe_get c']; exact b)
  · obtain ⟨h1, ds, h2⟩ := S.pin j p hj
    obtain ⟨h3, c⟩ := wipe_some h1
    exact ⟨h3, ds, by rw [restE_not c]; exact h2⟩
  · refine NwOk.go S.nw (fun j w hj => ?_) (fun j ds a hj e => ?_) (fun a h1 h2 _ _ => ⟨h1, h2, rfl⟩) (Same.refl _) S.dom
    · by_cases c : j ∈ vs
      · by_cases d : j < env.length
        · rw [restE_in c d] at hj
          unfold keepFz at hj
          split at hj <;> cases hj
        · rw [List.getElem?_eq_none (by rw [restE_len]; omega)] at hj
          cases hj
      · rw [restE_not c] at hj
        exact ⟨hj, (wipe_get c).symm⟩
    · obtain ⟨c, z⟩ := own' j ds hj
      exact .inl ⟨ds, z, by rw [wipe_get c]; exact e⟩
/-- targets that set only some places -/
def SndW (K : PySem.W.Frag) (vs : List Nat) (g : TG) (h : GF) : Prop := ∀ B O I σ H env v d env', Sta K B O I σ H env → Dq K (mi H O) v d → h d env = some env' →
  ∀ Q : L2.St → Hp → Prop, (∀ σ', L2.wipe σ' vs = L2.wipe σ vs → Sta K B O I σ' H env' → Q σ' H) → g v σ H Q
def SndWs (K : PySem.W.Frag) (vs : List Nat) (g : TGs) (h : List D → Env → Option Env) : Prop := ∀ B O I σ H env us ds env', Sta K B O I σ H env → DqA K (mi H O) us ds → h ds env = some env' →
  ∀ Q : L2.St → Hp → Prop, (∀ σ', L2.wipe σ' vs = L2.wipe σ vs → Sta K B O I σ' H env' → Q σ' H) → g us σ H Q
theorem sw_name {vs : List Nat} (i : Nat) (hi : i ∈ vs) : SndW K vs (gName i) (gfName i) := by
  intro B O I σ H env v d env' S hd e Q q
  exact q _ (wipe_set hi) (S.put hd e)
theorem sws_nil {vs : List Nat} : SndWs K vs gNil gfNil := by
  intro B O I σ H env v d env' S hd e Q q
  unfold gfNil at e
  split at e
  · cases e
    cases hd
    exact ⟨rfl, q _ rfl S⟩
  · cases e
theorem sws_cons {vs : List Nat} {g : TG} {gs : TGs} {h : GF} {hs : List D → Env → Option Env} (h1 : SndW K vs g h) (h2 : SndWs K vs gs hs) : SndWs K vs (gCons g gs) (gfCons h hs) := by
  intro B O I σ H env v d env' S hd e Q q
  unfold gfCons at e
  split at e
  · cases hd with
    | cons d1 d2 =>
      obtain ⟨e1, e2, e3⟩ := bnd e
      exact ⟨_, _, rfl, h1 B O I σ H env _ _ e1 S d1 e2 _ fun σ1 w1 S1 => h2 B O I σ1 H e1 _ _ env' S1 d2 e3 Q fun σ2 w2 S2 => q σ2 (w2.trans w1) S2⟩
  · cases e
theorem sw_tup {vs : List Nat} {gs : TGs} {hs : List D → Env → Option Env} {n : Nat} (h2 : SndWs K vs gs hs) : SndW K vs (gTup K n gs) (gfTup n hs) := by
  intro B O I σ H env v d env' S hd e Q q
  unfold gfTup at e
  split at e
  · split at e
    · cases hd with
      | tup h1 h3 => exact ⟨_, _, rfl, sqT_mono mi_same h1, by rw [h3.length]; assumption, h2 B O I σ H env _ _ env' S h3 e Q q⟩
    · cases e
  · split at e
    · cases hd with
      | nt h1 h3 => exact ⟨_, _, rfl, .inl (.inl (mi_some h1).2), by rw [h3.length]; assumption, h2 B O I σ H env _ _ env' S h3 e Q q⟩
    · cases e
  · cases e
def fYes : TF := fun env => some (true, env)
theorem st_yes : SndT K tYes fYes := by
  intro B O I σ H env b env' S e Q q
  cases e
  exact q H S
def lcN (g : GF) (tt : TF) (fe : EF) (vs : List Nat) : List D → Env → Option (List D × Env)
  | [], env => some ([], env)
  | d :: ds, env => (g d env).bind fun e1 => (tt e1).bind fun b => if b.1 then (fe b.2).bind fun a => match frz a.1 with
      | .val y => (wipeO vs a.2).bind fun w => (lcN g tt fe vs ds w).bind fun r => some (y :: r.1, r.2)
      | _ => none
    else (wipeO vs b.2).bind fun w => lcN g tt fe vs ds w
def fLc (fi : IF) (g : GF) (tt : TF) (fe : EF) (vs : List Nat) : EF := fun env => (fi env).bind fun a => (wipeO vs a.2).bind fun w => (lcN g tt fe vs a.1 w).bind fun r =>
  if r.1.length ≤ 10000000 then some (.new r.1, restE a.2 vs r.2) else none
/-- a list D that nobody names is hidden, and shown -/
theorem Sta.hide {D : Addr} {o : HO} (S : Sta K (upd B D o) (D :: O) I σ H env) (hD : D ∉ O) (hB : B D = none) : Sta K B O I σ (mi H [D]) env := by
  have nd : ∀ q, upd B D o q = none → q ≠ D ∧ B q = none := fun q z => by
    have c : q ≠ D := fun y => by
      subst y
      rw [upd_same] at z
      cases z
    rw [upd_ne c] at z
    exact ⟨c, z⟩
  have out : ∀ q u, q ≠ D → H q = some u → mi H [D] q = some u := fun q u c z => mi_of (fun y => c (List.mem_singleton.mp y)) z
  refine ⟨S.len, fun i d h => by rw [mi_mi]; exact S.fz i d h, fun i ds h => ?_, S.sep, fun a u h => ?_, fun p hp => ?_, S.pin, ?_, fun p xs hp z => S.nt p xs (List.mem_cons_of_mem _ hp) (mi_some z).2⟩
  · obtain ⟨p, xs, h1, h2, h3, h4, h5⟩ := S.ow i ds h
    obtain ⟨c, h6⟩ := nd p h5
    exact ⟨p, xs, h1, (List.mem_cons.mp h2).resolve_left c, out _ _ c h3, by rw [mi_mi]; exact h4, h6⟩
  · have c : a ≠ D := fun y => by
      subst y
      rw [hB] at h
      cases h
    exact out _ _ c (S.base a u (by rw [upd_ne c]; exact h))
  · have c : p ≠ D := fun y => hD (y ▸ hp)
    obtain ⟨u, z⟩ := S.dom p (List.mem_cons_of_mem _ hp)
    exact ⟨u, out _ _ c z⟩
  · refine NwOk.go S.nw (fun j w hj => ⟨hj, rfl⟩) (fun j ds a hj e => .inl ⟨ds, hj, e⟩) (fun a h1 h2 ⟨o, h3⟩ _ => ?_) (by rw [mi_mi]; exact Same.refl _) S.dom
    obtain ⟨c, h6⟩ := nd a h2
    exact ⟨(List.mem_cons.mp h1).resolve_left c, h6, by rw [h3]; exact out _ _ c h3⟩
theorem Sta.show {D : Addr} {o : HO} (S : Sta K B O I σ (mi H [D]) env) (hD : H D = some o) (ho : ∀ xs, o ≠ .tup xs := by intro xs z; cases z) : Sta K (upd B D o) (D :: O) I σ H env := by
  have low : ∀ q ys, mi H [D] q = some ys → q ≠ D ∧ H q = some ys := fun q ys z => by
    obtain ⟨z1, z2⟩ := mi_some z
    exact ⟨fun y => z1 (List.mem_singleton.mpr y), z2⟩
  refine ⟨S.len, fun i d h => by rw [← mi_mi]; exact S.fz i d h, fun i ds h => ?_, S.sep, fun a u h => ?_, fun p hp => ?_, S.pin, ?_, fun p xs hp => ?_⟩
  · obtain ⟨p, xs, h1, h2, h3, h4, h5⟩ := S.ow i ds h
    obtain ⟨c, h6⟩ := low _ _ h3
    exact ⟨p, xs, h1, List.mem_cons_of_mem _ h2, h6, by rw [← mi_mi]; exact h4, by rw [upd_ne c]; exact h5⟩
  · by_cases c : a = D
    · subst c
      rw [upd_same] at h
      cases h
      exact hD
    · rw [upd_ne c] at h
      exact (low _ _ (S.base a u h)).2
  · rcases List.mem_cons.mp hp with rfl | hp
    · exact ⟨_, hD⟩
    · obtain ⟨u, z⟩ := S.dom p hp
      exact ⟨u, (low _ _ z).2⟩
  · refine NwOk.go S.nw (fun j w hj => ⟨hj, rfl⟩) (fun j ds a hj e => .inl ⟨ds, hj, e⟩) (fun a h1 h2 ⟨o, h3⟩ _ => ?_) (by rw [mi_mi]; exact Same.refl _) S.dom
    obtain ⟨c, h6⟩ := low _ _ h3
    exact ⟨List.mem_cons_of_mem _ h1, by rw [upd_ne c]; exact h2, by rw [h3]; exact h6⟩
  · rcases List.mem_cons.mp hp with rfl | hp
    · rw [hD]
      exact fun z => ho xs (Option.some.inj z)
    · exact S.ntS hp (fun o z => (low _ _ z).2) xs
theorem Sta.not_own {D : Addr} {o : HO} (S : Sta K B O I σ H env) (h : B D = some o) : keepH σ env H D = some o := by
  rw [keepH_not]
  · exact S.base _ _ h
  · intro z
    have k5 := (S.owns_free z).2
    rw [h] at k5
    cases k5
theorem snd_lc {wi : TI} {fi : IF} {g : TG} {h : GF} {tt : TT} {ft : TF} {vs : List Nat} (hi : SndI K wi fi) (hg : SndW K vs g h) (ht : SndT K tt ft) (he : Snd K te fe) : Snd K (tLc wi g tt te vs) (fLc fi h ft fe vs) := by
  intro B O I σ H env rv env' S e Q q
  obtain ⟨⟨items, env1⟩, e1, e⟩ := bnd e
  obtain ⟨w0, ew, e⟩ := bnd e
  obtain ⟨⟨all, envE⟩, e2, e⟩ := bnd e
  dsimp only at ew e2 e
  split at e
  · rename_i hall
    cases e
    refine hi B O I σ H env items env1 S e1 _ fun J H1 S1 it => fun L hL => ?_
    have hLO : L ∉ O := not_dom S1.dom hL
    have hLB : keepH σ env1 H1 L = none := (keepH_same (σ := σ) (env := env1) (H := H1)).free hL
    have S0 : Sta K (keepH σ env1 H1) O I (L2.wipe σ vs) H1 w0 := S1.strong.wipe ew
    refine ⟨fun i m H => ∃ env acc done rest, Sta K (keepH σ env1 H1) O I (L2.wipe σ vs) (mi H [L]) env ∧ H L = some (.lst acc) ∧ DqA K (mi (mi H [L]) O) acc done ∧ i + m = items.length ∧ lcN h ft fe vs (items.drop i) env = some (rest, envE) ∧ done ++ rest = all,
      ⟨items.length, w0, [], [], all, by rw [mi_one_new hL]; exact S0, upd_same, .nil, by omega, by simpa using e2, rfl⟩, fun i m H ⟨env2, acc, done, rest, S2, hA, hD, em, e3, ed⟩ => ?_⟩
    have fz0 : Same (mi H1 O) (mi H (L :: O)) := fun a o z => by
      obtain ⟨z1, z2⟩ := mi_some z
      rw [← mi_mi]
      refine mi_of z1 (S2.base a o ?_)
      rw [keepH_not (fun y => z1 (S1.owns_in y))]
      exact z2
    have S3 := S2.show hA
    obtain ⟨i1, i2, i3⟩ := it H (L :: O) fz0 S3.dom
    cases m with
    | zero =>
      have ei : i = items.length := by omega
      subst ei
      rw [List.drop_length] at e3
      cases e3
      rw [List.append_nil] at ed
      subst ed
      refine .inl ⟨i2, q _ _ ⟨L, acc, rfl, hA, S1.base.free hL, hLO, ?_, hD⟩⟩
      exact (Sta.rest S1 S2 (by rw [mi_mi]; exact fz0)).weak S1.base_keep
    | succ m =>
      have hi : i < items.length := by omega
      rw [List.drop_eq_getElem_cons hi] at e3
      obtain ⟨env3, e4, e5⟩ := bnd e3
      obtain ⟨⟨b, env4⟩, e6, e7⟩ := bnd e5
      refine .inr ⟨i1 i hi, fun H' => ∃ env acc done rest, Sta K (keepH σ env1 H1) O I (L2.wipe σ vs) (mi H' [L]) env ∧ H' L = some (.lst acc) ∧ DqA K (mi (mi H' [L]) O) acc done ∧ lcN h ft fe vs (items.drop (i + 1)) env = some (rest, envE) ∧ done ++ rest = all,
        fun H' ⟨a1, a2, a3, a4, a5, a6, a7, a8, a9⟩ => ⟨m, by omega, a1, a2, a3, a4, a5, a6, a7, by omega, a8, a9⟩, fun x H3 hy => ?_⟩
      obtain ⟨sm, dx⟩ := i3 i _ x H3 (List.getElem?_eq_getElem hi) hy
      have S4 := S3.grow sm
      have hL3 : keepH (L2.wipe σ vs) env2 H3 L = some (.lst acc) := S4.not_own (o := .lst acc) upd_same
      have base3 : Same (upd (keepH σ env1 H1) L (.lst acc)) (keepH (L2.wipe σ vs) env2 H3) := S4.base_keep
      refine hg _ _ I _ H3 env2 x _ env3 S4.strong dx e4 _ fun σ4 w4 S5 => ⟨by rw [w4, wipe_idem], ?_⟩
      refine ht _ _ I σ4 H3 env3 b env4 S5 e6 _ fun H5 S6 => ?_
      -- what stays
      have st : ∀ {H6 : Hp} {σ6 : L2.St} {env6 : Env}, Sta K (keepH (L2.wipe σ vs) env2 H3) (L :: O) I σ6 H6 env6 → Same (mi H (L :: O)) (mi H6 (L :: O)) := fun {H6 σ6 env6} Z => by
        have z1 : Same (mi H3 (L :: O)) (mi H6 (L :: O)) := stays S4 .refl Z
        exact (mi_mono sm).trans z1
      cases b with
      | false =>
        rw [if_neg Bool.false_ne_true]
        obtain ⟨w5, e8, e9⟩ := bnd e7
        have S7 := ((S6.wipe e8).weak base3).hide hLO hLB
        rw [w4, wipe_idem] at S7
        refine ⟨w5, acc, done, rest, S7, S6.base _ _ hL3, ?_, e9, ed⟩
        rw [mi_mi] at hD ⊢
        exact DqA.mono (st S6) _ _ hD
      | true =>
        rw [if_pos rfl]
        obtain ⟨⟨r6, env6⟩, e8, e9⟩ := bnd e7
        dsimp only at e9
        split at e9
        · rename_i y hy6
          obtain ⟨w5, f1, f2⟩ := bnd e9
          obtain ⟨⟨rest', env7⟩, f3, f4⟩ := bnd f2
          cases f4
          refine he _ _ I σ4 H5 env4 r6 env6 S6 e8 _ fun vy H6 P6 => ?_
          have P6' := P6.frz
          rw [hy6] at P6'
          obtain ⟨S7, dy⟩ := P6'
          have hA6 := S7.base _ _ hL3
          have ll : acc.length < sizeLine := by
            rw [hD.length]
            refine line_lt ?_
            rw [← ed, List.length_append] at hall
            omega
          refine ⟨acc, hA6, ll, w5, acc ++ [vy], done ++ [y], rest', ?_, upd_same, ?_, f3, by rw [← ed]; simp⟩
          · have S8 := ((S7.wipe f1).weak base3).hide hLO hLB
            rw [w4, wipe_idem] at S8
            rw [mi_upd_in (List.mem_singleton.mpr rfl)]
            exact S8
          · rw [mi_upd_in (List.mem_singleton.mpr rfl)]
            rw [mi_mi] at hD ⊢
            exact (DqA.mono (st S7) _ _ hD).append (.cons dy .nil)
        · cases e9
  · cases e
end
end Dv

namespace Dv
open PySem L2

section
variable {K : PySem.W.Frag} {B : Hp} {O : List Addr} {I : List (Nat × Addr)} {σ : L2.St} {H H' : Hp} {env env' : Env} {v : V} {t ta tb te : TE} {f fa fb fe : EF} {W : WN}
/-! ### own lists changed in their places -/
def isOwn (env : Env) (i : Nat) : Bool := match env[i]? with
  | some (.o1 _) => true
  | some (.io _) => true
  | _ => false
theorem isOwn_of {i : Nat} (h : isOwn env i = true) : ∃ ds, OwnAt env i ds := by
  unfold isOwn at h
  split at h
  · exact ⟨_, .inl (by assumption)⟩
  · exact ⟨_, .inr (by assumption)⟩
  · cases h
/-- xs.m(e), xs a name: h from the list and the argument -/
def fOM (i : Nat) (h : D → List D → Option (List D)) (f : EF) : EF := fun env => if isOwn env i then (f env).bind fun a => match frz a.1 with
  | .val d => (upO i (h d) a.2).bind fun e => some (.val .non, e)
  | _ => none
  else none
def hApp : D → List D → Option (List D) := fun d ds => if ds.length ≤ 10000000 then some (ds ++ [d]) else none
theorem tyL {p : Addr} {xs : List V} (h : H p = some (.lst xs)) : tyV K "list" (.ref p) H := .inl ⟨rfl, _, .inl (.inl h)⟩
theorem snd_om {i : Nat} {r : V → List V → Hp → VK → Prop} {h : D → List D → Option (List D)} (he : Snd K te fe)
    (hr : ∀ (H : Hp) (O : List Addr) (p : Addr) (xs : List V) (ds es : List D) (x : V) (d : D), H p = some (.lst xs) → DqA K (mi H O) xs ds → Dq K (mi H O) x d → p ∈ O → h d ds = some es →
      ∀ Q : VK, (∀ ys, DqA K (mi H O) ys es → Q .non (upd H p (.lst ys))) → r (.ref p) [x] H Q) : Snd K (tBM K "list" r (tVar i) (tCons te tNil)) (fOM i h fe) := by
  intro B O I σ H env rv env' S e Q q
  unfold fOM at e
  split at e
  · rename_i ho
    obtain ⟨ds0, o0⟩ := isOwn_of ho
    obtain ⟨p0, xs0, s0, p0O, hp0, _, _⟩ := S.ow i ds0 o0
    obtain ⟨⟨r1, env1⟩, e1, e⟩ := bnd e
    dsimp only at e
    split at e
    · rename_i d hd
      obtain ⟨env2, e2, e⟩ := bnd e
      cases e
      refine ⟨_, s0, tyL hp0, ?_⟩
      refine he B O I σ H env r1 env1 S e1 _ fun x H1 P1 => ?_
      have P := P1.frz
      rw [hd] at P
      obtain ⟨S1, dx⟩ := P
      obtain ⟨p, xs, ds, es, s1, hp, hx, _, eh, up⟩ := S1.up e2
      rw [s0] at s1
      cases s1
      exact hr H1 O p0 xs ds es x d hp hx dx p0O eh _ fun ys hy => q _ _ ⟨up ys hy, .non⟩
    · cases e
  · cases e
theorem snd_append {i : Nat} (he : Snd K te fe) : Snd K (tBM K "list" rAppend (tVar i) (tCons te tNil)) (fOM i hApp fe) :=
  snd_om he fun H O p xs ds es x d hp hx dx _ eh Q q => by
    unfold hApp at eh
    split at eh
    · cases eh
      rename_i hl
      refine ⟨p, xs, x, rfl, rfl, hp, ?_, q _ (hx.append (.cons dx .nil))⟩
      rw [hx.length]
      exact line_lt hl
    · cases eh
def hExt : D → List D → Option (List D) := fun d ds => match d with
  | .lst es => if ds.length + es.length ≤ 10000000 then some (ds ++ es) else none
  | _ => none
theorem snd_extend {i : Nat} (he : Snd K te fe) : Snd K (tBM K "list" rExtend (tVar i) (tCons te tNil)) (fOM i hExt fe) :=
  snd_om he fun H O p xs ds es x d hp hx dx _ eh Q q => by
    unfold hExt at eh
    split at eh
    · split at eh
      · cases eh
        rename_i hl
        cases dx with
        | lst g1 g2 =>
          refine ⟨p, _, xs, _, rfl, rfl, hp, (mi_some g1).2, ?_, q _ (hx.append g2)⟩
          rw [hx.length, g2.length]
          exact line_of hl
      · cases eh
    · cases eh
/-- xs.m() -/
def fOM0 (i : Nat) (h : List D → Option (List D)) : EF := fun env => (upO i h env).bind fun e => some (.val .non, e)
theorem snd_om0 {i : Nat} {r : V → List V → Hp → VK → Prop} {h : List D → Option (List D)}
    (hr : ∀ (H : Hp) (O : List Addr) (p : Addr) (xs : List V) (ds es : List D), H p = some (.lst xs) → DqA K (mi H O) xs ds → h ds = some es →
      ∀ Q : VK, (∀ ys, DqA K (mi H O) ys es → Q .non (upd H p (.lst ys))) → r (.ref p) [] H Q) : Snd K (tBM0 K "list" r (tVar i)) (fOM0 i h) := by
  intro B O I σ H env rv env' S e Q q
  obtain ⟨env2, e2, e⟩ := bnd e
  cases e
  obtain ⟨p, xs, ds, es, s1, hp, hx, _, eh, up⟩ := S.up e2
  exact ⟨_, s1, tyL hp, hr H O p xs ds es hp hx eh _ fun ys hy => q _ _ ⟨up ys hy, .non⟩⟩
theorem snd_reverse {i : Nat} : Snd K (tBM0 K "list" rReverse (tVar i)) (fOM0 i fun ds => some ds.reverse) :=
  snd_om0 fun H O p xs ds es hp hx eh Q q => by
    cases eh
    exact ⟨p, xs, rfl, rfl, hp, q _ hx.reverse⟩
theorem snd_clear {i : Nat} : Snd K (tBM0 K "list" rClear (tVar i)) (fOM0 i fun _ => some []) :=
  snd_om0 fun H O p xs ds es hp hx eh Q q => by
    cases eh
    exact ⟨p, xs, rfl, rfl, hp, q _ .nil⟩
/-- xs.pop() -/
def fPop (i : Nat) : EF := fun env => match deref env (.slot i) with
  | some (.lst ds) => (ds[ds.length - 1]?).bind fun d => (upO i (fun ds => some ds.dropLast) env).bind fun e => some (.val d, e)
  | _ => none
theorem dropLast_take {α : Type} (xs : List α) : xs.dropLast = xs.take (xs.length - 1) := List.dropLast_eq_take
theorem snd_pop {i : Nat} : Snd K (tBM0 K "list" rPop (tVar i)) (fPop i) := by
  intro B O I σ H env rv env' S e Q q
  unfold fPop at e
  split at e
  · rename_i ds0 hd0
    obtain ⟨d, e1, e⟩ := bnd e
    obtain ⟨env2, e2, e⟩ := bnd e
    cases e
    obtain ⟨ds1, e3, o0⟩ := ownAt_of hd0
    cases e3
    obtain ⟨p, xs, ds, es, s1, hp, hx, o1, eh, up⟩ := S.up e2
    cases eh
    have ed : ds = ds0 := by
      rcases o0 with z | z <;> rcases o1 with y | y <;> rw [z] at y <;> cases y <;> rfl
    subst ed
    obtain ⟨x, g1, g2⟩ := hx.get e1
    rw [← hx.length] at g1
    have hy : DqA K (mi H O) xs.dropLast ds.dropLast := by
      rw [dropLast_take, dropLast_take, hx.length]
      exact hx.take _
    have hpO : p ∈ O := by
      obtain ⟨p', xs', s2, k2, _⟩ := S.ow i ds o1
      rw [s1] at s2
      cases s2
      exact k2
    refine ⟨_, s1, tyL hp, p, xs, x, rfl, rfl, hp, g1, q _ _ ⟨up _ hy, ?_⟩⟩
    rw [mi_upd_in hpO]
    exact g2
  · cases e
/-- xs[k] = e -/
def fSetI (i : Nat) (fk fe : EF) : SFn := fun env => (fe env).bind fun a => if isOwn a.2 i then (fk a.2).bind fun b => match frz a.1, b.1 with
  | .val d, .val (.int k) => (upO i (fun ds => (ixN ds.length k).bind fun j => some (ds.set j d)) b.2).bind fun e => some (.nx e)
  | _, _ => none
  else none
theorem ss_setI {i : Nat} {tk : TE} {fk : EF} (he : Snd K te fe) (hk : Snd K tk fk) : SndS K W (tAsg te (gSub (tVar i) tk rSetL)) (fSetI i fk fe) := by
  intro B O I σ H env o S e D k
  obtain ⟨⟨r1, env1⟩, e1, e⟩ := bnd e
  dsimp only at e
  split at e
  · rename_i ho
    obtain ⟨⟨r2, env2⟩, e2, e⟩ := bnd e
    dsimp only at e
    split at e
    · rename_i d k' hd
      obtain ⟨env3, e3, e⟩ := bnd e
      cases e
      refine he B O I σ H env r1 env1 S e1 _ fun x H1 P1 => ?_
      have P1' := P1.frz
      have S1 := P1'.sta
      obtain ⟨ds0, o0⟩ := isOwn_of ho
      obtain ⟨p0, xs0, s0, p0O, hp0, _, _⟩ := S1.ow i ds0 o0
      refine ⟨_, s0, ?_⟩
      refine hk _ O I σ H1 env1 _ env2 S1.strong e2 _ fun y H2 P2 => ?_
      have P3 := P1'.later P2.1
      rw [hd] at P3
      obtain ⟨S3, dx⟩ := P3
      have dy := P2.2
      cases dy
      obtain ⟨p, xs, ds, es, s1, hp, hx, _, eh, up⟩ := S3.up e3
      rw [s0] at s1
      cases s1
      obtain ⟨j, ej, eh⟩ := bnd eh
      cases eh
      refine ⟨p0, xs, k', j, rfl, rfl, hp, by rw [hx.length]; exact ej, ?_⟩
      exact k O σ _ .refl (up _ (hx.set j dx))
    · cases e
  · cases e
/-! ### slices -/
abbrev OF := Env → Option (Option Int × Env)
def SndO (K : PySem.W.Frag) (t : TO) (f : OF) : Prop := ∀ B O I σ H env r env', Sta K B O I σ H env → f env = some (r, env') →
  ∀ Q : Option Int → Hp → Prop, (∀ H', Sta K B O I σ H' env' → Q r H') → t σ H Q
def fNoP : OF := fun env => some (none, env)
def fPt (f : EF) : OF := fun env => (f env).bind fun a => match a.1 with
  | .val (.int i) => some (some i, a.2)
  | _ => none
theorem so_none : SndO K tNoPart fNoP := by
  intro B O I σ H env r env' S e Q q
  cases e
  exact q H S
theorem so_some (h : Snd K t f) : SndO K (tPart t) (fPt f) := by
  intro B O I σ H env r env' S e Q q
  obtain ⟨⟨r1, env1⟩, e1, e⟩ := bnd e
  dsimp only at e
  split at e
  · cases e
    refine h B O I σ H env _ _ S e1 _ fun v H1 P1 => ?_
    obtain ⟨S1, d1⟩ := P1
    cases d1
    exact ⟨_, rfl, q _ S1⟩
  · cases e
def cutD {α : Type} (xs : List α) (lo hi : Option Int) : List α := (xs.drop (HT.sIx xs.length 0 lo)).take (HT.sIx xs.length xs.length hi - HT.sIx xs.length 0 lo)
theorem DqA.cut {G : Hp} {xs : List V} {ds : List D} {lo hi : Option Int} (h : DqA K G xs ds) : DqA K G (cutV xs lo hi) (cutD ds lo hi) := by
  unfold cutV cutD
  rw [h.length]
  exact (h.drop _).take _
abbrev GS := D → Option Int → Option Int → Option RV
def fSl (g : GS) (fe : EF) (fl fh : OF) : EF := fun env => (fe env).bind fun a => (fl a.2).bind fun b => (fh b.2).bind fun c => (deref c.2 (frz a.1)).bind fun x => (g x b.1 c.1).bind fun z => some (z, c.2)
def OpS (K : PySem.W.Frag) (r : V → Option Int → Option Int → Hp → VK → Prop) (g : GS) : Prop := ∀ B O I σ H env x ra d lo hi z, Post K B O I σ H env x ra → deref env ra = some d → g d lo hi = some z →
  ∀ Q : VK, (∀ v H', Post K B O I σ H' env v z → Q v H') → r x lo hi H Q
theorem snd_sl {r : V → Option Int → Option Int → Hp → VK → Prop} {g : GS} {tl th : TO} {fl fh : OF} (h : Snd K te fe) (hl : SndO K tl fl) (hh : SndO K th fh) (ho : OpS K r g) : Snd K (tSl r te tl th) (fSl g fe fl fh) := by
  intro B O I σ H env rv env' S e Q q
  obtain ⟨⟨r1, env1⟩, e1, e⟩ := bnd e
  obtain ⟨⟨b, env2⟩, e2, e⟩ := bnd e
  obtain ⟨⟨c, env3⟩, e3, e⟩ := bnd e
  obtain ⟨x, ex, e⟩ := bnd e
  obtain ⟨z, ez, e⟩ := bnd e
  cases e
  refine h B O I σ H env r1 env1 S e1 _ fun v H1 P1 => ?_
  have P1' := P1.frz
  have S1 := P1'.sta
  refine hl _ O I σ H1 env1 b env2 S1.strong e2 _ fun H2 S2 => ?_
  have P2 := P1'.later S2
  have S2' := P2.sta
  refine hh _ O I σ H2 env2 c env3 S2'.strong e3 _ fun H3 S3 => ?_
  have P3 := P2.later S3
  exact ho B O I σ H3 env3 v _ x b c _ P3 ex ez Q q
def gSlL : GS := fun d lo hi => match d with
  | .lst ds => some (.new (cutD ds lo hi))
  | _ => none
theorem os_list : OpS K (rSlL K) gSlL := by
  intro B O I σ H env x ra d lo hi z P e ez Q q
  unfold gSlL at ez
  split at ez
  · cases ez
    obtain ⟨p, xs, rfl, h1, k1⟩ := P.items e
    exact ⟨p, xs, rfl, .inl (.inl h1), fun l hl => q _ _ (post_new P.sta hl k1.cut)⟩
  · cases ez
/-! ### isinstance -/
def tyD : D → String
  | .non => "NoneType"
  | .bl _ => "bool"
  | .int _ => "int"
  | .str _ => "str"
  | .lst _ => "list"
  | .scr _ => "list"
  | .tup _ => "tuple"
  | .adr _ => ""
  | .nt _ => "tuple"
  | .dct _ _ => "dict"
theorem tyX_of {d : D} (h : Dq K H v d) (hn : ∀ a, d ≠ .adr a) (hn2 : ∀ ks xs, d ≠ .dct ks xs) : TyX K H v (.type (tyD d)) := by
  cases h with
  | adr a => exact absurd rfl (hn a)
  | non => exact .base .non
  | bl b => exact .base (.bl b)
  | int i => exact .base (.int i)
  | str x => exact .base (.str x)
  | lst h1 h2 => exact .base (.lst h1)
  | tup h1 h2 =>
    rcases h1 with (h | ⟨o, h⟩) | ⟨o, its, n, h, c, _⟩
    · exact .base (.tup h)
    · exact .fTuple h
    · exact .kTuple h c
  | nt h1 h2 => exact .base (.tup h1)
  | dct h1 h2 h3 => exact absurd rfl (hn2 _ _)
  | scr h1 =>
    rcases h1 with (h | ⟨o, h⟩) | ⟨o, its, n, h, c, _⟩
    · exact .base (.lst h)
    · exact .base (.frz h)
    · exact .kList h c
def kitD (d : D) (T : String) : Option Bool := match d with
  | .adr _ => none
  | .dct _ _ => none
  | d => kitB (tyD d) T
theorem kitD_of {d : D} {T : String} {b : Bool} (h : kitD d T = some b) : (∀ a, d ≠ .adr a) ∧ (∀ ks xs, d ≠ .dct ks xs) ∧ kitB (tyD d) T = some b := by
  cases d with
  | adr a => cases h
  | dct ks xs => cases h
  | _ => exact ⟨(fun a z => nomatch z), (fun ks xs z => nomatch z), h⟩
def fIsi (T : String) (f : EF) : EF := fun env => (f env).bind fun a => (deref a.2 a.1).bind fun d => (kitD d T).bind fun b => some (.val (.bl b), a.2)
theorem snd_isi {T : String} (h : Snd K t f) : Snd K (tCB (rIsi K) (tCons t (tCons (tC (.ty T)) tNil))) (fIsi T f) := by
  intro B O I σ H env rv env' S e Q q
  obtain ⟨⟨r1, env1⟩, e1, e⟩ := bnd e
  obtain ⟨d, e2, e⟩ := bnd e
  obtain ⟨b, e3, e⟩ := bnd e
  cases e
  refine h B O I σ H env _ _ S e1 _ fun v H1 P1 => ?_
  exact ⟨v, .ty T, _, _, b, rfl, .ty T, tyX_of (P1.read e2) (kitD_of e3).1 (kitD_of e3).2.1, kit_ty (kitD_of e3).2.2, q _ H1 ⟨P1.sta, .bl b⟩⟩
end
end Dv

namespace Dv
open PySem L2

/-! ### a def's promise -/
inductive ArgsOk (K : PySem.W.Frag) (O : List Addr) (H : Hp) : List Bool → List V → List D → Prop
  | nil : ArgsOk K O H [] [] []
  | val {v : V} {d : D} {bs : List Bool} {vs : List V} {ds : List D} : Dq K (mi H O) v d → ArgsOk K O H bs vs ds → ArgsOk K O H (false :: bs) (v :: vs) (d :: ds)
  | io {p : Addr} {xs : List V} {es : List D} {bs : List Bool} {vs : List V} {ds : List D} : p ∈ O → H p = some (.lst xs) → DqA K (mi H O) xs es → ArgsOk K O H bs vs ds → ArgsOk K O H (true :: bs) (.ref p :: vs) (.lst es :: ds)
def pinsOf : Nat → List Bool → List V → List (Nat × Addr)
  | k, true :: bs, .ref p :: vs => (k, p) :: pinsOf (k + 1) bs vs
  | k, _ :: bs, _ :: vs => pinsOf (k + 1) bs vs
  | _, _, _ => []
def ioA (bs : List Bool) (vs : List V) : List Addr := (pinsOf 0 bs vs).map (·.2)
def OutsOk (K : PySem.W.Frag) (O : List Addr) (H : Hp) : List Addr → List (List D) → Prop
  | [], [] => True
  | p :: ps, ds :: dss => (∃ xs, H p = some (.lst xs) ∧ DqA K (mi H O) xs ds) ∧ OutsOk K O H ps dss
  | _, _ => False
abbrev FF := List D → Option (D × Bool × List (List D))
def isTp : D → Bool
  | .tup _ => true
  | _ => false
structure ResOk (K : PySem.W.Frag) (O : List Addr) (H : Hp) (ps : List Addr) (v : V) (H' : Hp) (r : D) (fr : Bool) (outs : List (List D)) : Prop where
  frame : ∀ a o, H a = some o → a ∉ ps → H' a = some o
  old : fr = false → OutsOk K O H' ps outs ∧ Dq K (mi H' O) v r
  new : fr = true → isTp r = false → ∃ p xs rs, v = .ref p ∧ r = .lst rs ∧ H p = none ∧ H' p = some (.lst xs) ∧ DqA K (mi (mi H' [p]) O) xs rs ∧ OutsOk K O (mi H' [p]) ps outs
  tw : fr = true → isTp r = true → ∃ p qs dss, v = .ref p ∧ r = .tup (dss.map D.lst) ∧ H' p = some (.tup (qs.map V.ref)) ∧ qs.Nodup ∧ (∀ q, q ∈ qs → H q = none) ∧ LsOk K (mi H' (qs ++ O)) H' qs dss ∧ OutsOk K O (mi H' qs) ps outs
def spD (K : PySem.W.Frag) (io : List Bool) (g : FF) : Sp := fun vs H Q _ => ∃ O ds r fr outs, ArgsOk K O H io vs ds ∧ (ioA io vs).Nodup ∧ (∀ p, p ∈ O → ∃ o, H p = some o) ∧ (∀ p xs, p ∈ O → H p ≠ some (.tup xs)) ∧ g ds = some (r, fr, outs) ∧
  ∀ v H', ResOk K O H (ioA io vs) v H' r fr outs → Q v H'

/-! ### the def's side -/
def argS : List Bool → List D → Option Env
  | [], [] => some []
  | true :: bs, .lst ds :: r => (argS bs r).bind fun e => some (.io ds :: e)
  | false :: bs, d :: r => (argS bs r).bind fun e => some (.fz d :: e)
  | _, _ => none
def ioIx : Nat → List Bool → List Nat
  | _, [] => []
  | k, true :: bs => k :: ioIx (k + 1) bs
  | k, false :: bs => ioIx (k + 1) bs
def outE (env : Env) : List Nat → Option (List (List D))
  | [] => some []
  | j :: js => match env[j]? with
    | some (.io ds) => (outE env js).bind fun r => some (ds :: r)
    | _ => none
def fDef (m : Nat) (io : List Bool) (b : SFn) : FF := fun ds => (argS io ds).bind fun e => (b (e ++ List.replicate m .no)).bind fun o => match o with
  | .nx env => (outE env (ioIx 0 io)).bind fun outs => some (.non, false, outs)
  | .rt (.val d) env => (outE env (ioIx 0 io)).bind fun outs => some (d, false, outs)
  | .rt (.new es) env => (outE env (ioIx 0 io)).bind fun outs => some (.lst es, true, outs)
  | .rt (.tw dss) env => (outE env (ioIx 0 io)).bind fun outs => some (.tup (dss.map D.lst), true, outs)
  | .rt (.slot i) env => match env[i]? with
    | some (.o1 es) => (outE env (ioIx 0 io)).bind fun outs => some (.lst es, true, outs)
    | _ => none
  | _ => none

section
variable {K : PySem.W.Frag} {B : Hp} {O : List Addr} {I : List (Nat × Addr)} {σ : L2.St} {H H' : Hp} {env env' : Env} {v : V} {t ta tb te : TE} {f fa fb fe : EF} {W : WN}
theorem ArgsOk.len {bs : List Bool} {vs : List V} {ds : List D} (h : ArgsOk K O H bs vs ds) : vs.length = bs.length := by
  induction h with
  | nil => rfl
  | val _ _ ih => simp [ih]
  | io _ _ _ _ ih => simp [ih]
theorem ArgsOk.elen {bs : List Bool} {vs : List V} {ds : List D} (h : ArgsOk K O H bs vs ds) : ∀ {e : Env}, argS bs ds = some e → e.length = vs.length := by
  induction h with
  | nil => intro e he; cases he; rfl
  | val _ _ ih =>
    intro e he
    obtain ⟨e', h1, h2⟩ := bnd he
    cases h2
    simp [ih h1]
  | io _ _ _ _ ih =>
    intro e he
    obtain ⟨e', h1, h2⟩ := bnd he
    cases h2
    simp [ih h1]
theorem ArgsOk.fz {bs : List Bool} {vs : List V} {ds : List D} (h : ArgsOk K O H bs vs ds) : ∀ {e : Env} {i : Nat} {d : D}, argS bs ds = some e → e[i]? = some (.fz d) → ∃ v, vs[i]? = some v ∧ Dq K (mi H O) v d := by
  induction h with
  | nil => intro e i d he hi; cases he; simp at hi
  | val hd _ ih =>
    intro e i d he hi
    obtain ⟨e', h1, h2⟩ := bnd he
    cases h2
    cases i with
    | zero => simp at hi; subst hi; exact ⟨_, rfl, hd⟩
    | succ i =>
      obtain ⟨v, g1, g2⟩ := ih h1 (by simpa using hi)
      exact ⟨v, by simpa using g1, g2⟩
  | io _ _ _ _ ih =>
    intro e i d he hi
    obtain ⟨e', h1, h2⟩ := bnd he
    cases h2
    cases i with
    | zero => simp at hi
    | succ i =>
      obtain ⟨v, g1, g2⟩ := ih h1 (by simpa using hi)
      exact ⟨v, by simpa using g1, g2⟩
theorem ArgsOk.own {bs : List Bool} {vs : List V} {ds : List D} (h : ArgsOk K O H bs vs ds) : ∀ {e : Env} {i k : Nat} {es : List D}, argS bs ds = some e → OwnAt e i es → ∃ p xs, vs[i]? = some (.ref p) ∧ p ∈ O ∧ H p = some (.lst xs) ∧ DqA K (mi H O) xs es ∧ (k + i, p) ∈ pinsOf k bs vs := by
  induction h with
  | nil => intro e i k es he hi; cases he; rcases hi with hi | hi <;> simp at hi
  | val hd _ ih =>
    intro e i k es he hi
    obtain ⟨e', h1, h2⟩ := bnd he
    cases h2
    cases i with
    | zero => rcases hi with hi | hi <;> simp at hi
    | succ i =>
      obtain ⟨p, xs, g1, g2, g3, g4, g5⟩ := ih (i := i) (k := k + 1) h1 (by unfold OwnAt at hi ⊢; simpa using hi)
      refine ⟨p, xs, by simpa using g1, g2, g3, g4, ?_⟩
      have : k + (i + 1) = k + 1 + i := by omega
      rw [this]
      unfold pinsOf
      exact g5
  | @io q0 xs0 es0 bs0 vs0 ds0 hp hx hd _ ih =>
    intro e i k es he hi
    obtain ⟨e', h1, h2⟩ := bnd he
    cases h2
    cases i with
    | zero =>
      have : es = es0 := by
        rcases hi with hi | hi
        · simp at hi
        · simp at hi
          exact hi.symm
      subst this
      exact ⟨_, _, rfl, hp, hx, hd, List.mem_cons_self⟩
    | succ i =>
      obtain ⟨p, xs, g1, g2, g3, g4, g5⟩ := ih (i := i) (k := k + 1) h1 (by unfold OwnAt at hi ⊢; simpa using hi)
      refine ⟨p, xs, by simpa using g1, g2, g3, g4, ?_⟩
      have : k + (i + 1) = k + 1 + i := by omega
      rw [this]
      exact List.mem_cons_of_mem _ g5
theorem pins_ge : ∀ {bs : List Bool} {vs : List V} {k j : Nat} {p : Addr}, (j, p) ∈ pinsOf k bs vs → k ≤ j
  | [], _, _, _, _, h => by simp [pinsOf] at h
  | b :: bs, [], _, _, _, h => by cases b <;> simp [pinsOf] at h
  | b :: bs, v :: vs, k, j, p, h => by
    unfold pinsOf at h
    split at h
    · rename_i e1 e2
      cases e1
      cases e2
      rcases List.mem_cons.mp h with h | h
      · cases h; exact Nat.le_refl _
      · exact Nat.le_of_succ_le (pins_ge h)
    · rename_i e1 e2
      cases e1
      cases e2
      exact Nat.le_of_succ_le (pins_ge h)
    · cases h
theorem ArgsOk.pins {bs : List Bool} {vs : List V} {ds : List D} (h : ArgsOk K O H bs vs ds) : ∀ {e : Env} {k j : Nat} {p : Addr}, argS bs ds = some e → (j, p) ∈ pinsOf k bs vs → ∃ es, vs[j - k]? = some (.ref p) ∧ e[j - k]? = some (.io es) := by
  induction h with
  | nil => intro e k j p he hj; simp [pinsOf] at hj
  | @val v d bs vs ds hd _ ih =>
    intro e k j p he hj
    obtain ⟨e', h1, h2⟩ := bnd he
    cases h2
    have hj' : (j, p) ∈ pinsOf (k + 1) bs vs := by
      unfold pinsOf at hj
      exact hj
    have ge := pins_ge hj'
    obtain ⟨es, g1, g2⟩ := ih h1 hj'
    have ej : j - k = (j - (k + 1)) + 1 := by omega
    rw [ej]
    exact ⟨es, by simpa using g1, by simpa using g2⟩
  | @io q xs es bs vs ds hp hx hd _ ih =>
    intro e k j p he hj
    obtain ⟨e', h1, h2⟩ := bnd he
    cases h2
    rcases List.mem_cons.mp hj with hj | hj
    · cases hj
      exact ⟨_, by simp, by simp; rfl⟩
    · have ge := pins_ge hj
      obtain ⟨es, g1, g2⟩ := ih h1 hj
      have ej : j - k = (j - (k + 1)) + 1 := by omega
      rw [ej]
      exact ⟨es, by simpa using g1, by simpa using g2⟩
theorem nodup_key : ∀ {l : List (Nat × Addr)} {i j : Nat} {p : Addr}, (l.map (·.2)).Nodup → (i, p) ∈ l → (j, p) ∈ l → i = j
  | [], _, _, _, _, h, _ => by cases h
  | x :: l, i, j, p, hn, h1, h2 => by
    rw [List.map_cons, List.nodup_cons] at hn
    rcases List.mem_cons.mp h1 with e1 | e1 <;> rcases List.mem_cons.mp h2 with e2 | e2
    · rw [← e1] at e2
      cases e2
      rfl
    · exact absurd (List.mem_map.mpr ⟨(j, p), e2, by rw [← e1]⟩) hn.1
    · exact absurd (List.mem_map.mpr ⟨(i, p), e1, by rw [← e2]⟩) hn.1
    · exact nodup_key hn.2 e1 e2
theorem get_app {α : Type} {xs ys : List α} {i : Nat} {x : α} (h : (xs ++ ys)[i]? = some x) : xs[i]? = some x ∨ (xs.length ≤ i ∧ ys[i - xs.length]? = some x) := by
  by_cases c : i < xs.length
  · rw [List.getElem?_append_left c] at h
    exact .inl h
  · rw [List.getElem?_append_right (by omega)] at h
    exact .inr ⟨by omega, h⟩
theorem app_get {α : Type} {xs ys : List α} {i : Nat} {x : α} (h : xs[i]? = some x) : (xs ++ ys)[i]? = some x := by
  rw [List.getElem?_append_left (List.getElem?_eq_some_iff.mp h).1]
  exact h
theorem rep_no {m i : Nat} {s : SV} (h : (List.replicate m SV.no)[i]? = some s) : s = .no := by
  obtain ⟨h1, h2⟩ := List.getElem?_eq_some_iff.mp h
  rw [List.getElem_replicate] at h2
  exact h2.symm
/-- the def's state at its entry -/
theorem entry {N : List Str} {bs : List Bool} {vs : List V} {ds : List D} {e : Env} {m : Nat} (h : ArgsOk K O H bs vs ds) (hn : (ioA bs vs).Nodup) (hd : ∀ p, p ∈ O → ∃ o, H p = some o) (ht : ∀ p xs, p ∈ O → H p ≠ some (.tup xs)) (he : argS bs ds = some e) (hm : m = N.length - vs.length) :
    Sta K (mi H (ioA bs vs)) O (pinsOf 0 bs vs) (L2.start N vs) H (e ++ List.replicate m .no) := by
  have el := h.elen he
  have val : ∀ i v, vs[i]? = some v → (L2.start N vs)[i]? = some (some v) := fun i v z => by
    unfold L2.start
    refine app_get ?_
    rw [List.getElem?_map, z]
    rfl
  have own' : ∀ i es, OwnAt (e ++ List.replicate m .no) i es → OwnAt e i es := fun i es z => by
    rcases z with z | z
    · rcases get_app z with y | ⟨_, y⟩
      · exact .inl y
      · cases rep_no y
    · rcases get_app z with y | ⟨_, y⟩
      · exact .inr y
      · cases rep_no y
  have non : ∀ {bs : List Bool} {ds : List D} {e : Env} {i : Nat} {w : OV}, argS bs ds = some e → e[i]? ≠ some (SV.nw w) := by
    intro bs
    induction bs with
    | nil =>
      intro ds e i w h z
      cases ds with
      | nil => cases h; simp at z
      | cons d r => cases h
    | cons b bs ih =>
      intro ds e i w h z
      cases ds with
      | nil => cases b <;> cases h
      | cons d r =>
        cases b with
        | true =>
          cases d with
          | lst gs =>
            obtain ⟨e', g1, g2⟩ := bnd h
            cases g2
            cases i with
            | zero => simp at z
            | succ i => exact ih g1 (by simpa using z)
          | _ => cases h
        | false =>
          have h : (argS bs r).bind (fun e => some (SV.fz d :: e)) = some e := by
            cases d <;> exact h
          obtain ⟨e', g1, g2⟩ := bnd h
          cases g2
          cases i with
          | zero => simp at z
          | succ i => exact ih g1 (by simpa using z)
  refine ⟨?_, fun i d hi => ?_, fun i es hi => ?_, fun i j es gs p hi hj a b => ?_, mi_same, hd, fun j p hj => ?_, NwOk.none fun i w z => ?_, ht⟩
  · unfold L2.start
    rw [List.length_append, List.length_append, List.length_map, List.length_replicate, List.length_replicate, el, hm]
  · rcases get_app hi with y | ⟨_, y⟩
    · obtain ⟨v, g1, g2⟩ := h.fz he y
      exact ⟨v, val i v g1, g2⟩
    · cases rep_no y
  · obtain ⟨p, xs, g1, g2, g3, g4, g5⟩ := h.own (k := 0) he (own' i es hi)
    exact ⟨p, xs, val _ _ g1, g2, g3, g4, mi_in (List.mem_map.mpr ⟨_, g5, rfl⟩)⟩
  · obtain ⟨p1, xs1, g1, _, _, _, g5⟩ := h.own (k := 0) he (own' i es hi)
    obtain ⟨p2, xs2, k1, _, _, _, k5⟩ := h.own (k := 0) he (own' j gs hj)
    rw [val _ _ g1] at a
    rw [val _ _ k1] at b
    cases a
    cases b
    have := nodup_key hn g5 k5
    omega
  · obtain ⟨es, g1, g2⟩ := h.pins he hj
    exact ⟨val _ _ g1, es, app_get g2⟩
  · rcases get_app z with y | ⟨_, y⟩
    · exact non he y
    · cases rep_no y
theorem outs_of {O' : List Addr} {σ' : L2.St} (S : Sta K B O' I σ' H env) (so : ∀ a, a ∈ O → a ∈ O') : ∀ {l : List (Nat × Addr)} {outs : List (List D)}, (∀ x, x ∈ l → x ∈ I) → outE env (l.map (·.1)) = some outs → OutsOk K O H (l.map (·.2)) outs
  | [], outs, _, e => by cases e; trivial
  | (j, p) :: l, outs, hl, e => by
    obtain ⟨s1, ds, e1⟩ := S.pin j p (hl _ List.mem_cons_self)
    rw [List.map_cons] at e
    unfold outE at e
    dsimp only at e
    rw [e1] at e
    obtain ⟨r, e2, e3⟩ := bnd e
    cases e3
    obtain ⟨q, xs, k1, k2, k3, k4, k5⟩ := S.ow j ds (.inr e1)
    rw [s1] at k1
    cases k1
    exact ⟨⟨xs, k3, DqA.mono (mi_sub so) _ _ k4⟩, outs_of S so (fun x hx => hl x (List.mem_cons_of_mem _ hx)) e2⟩
theorem pins_ix : ∀ {bs : List Bool} {vs : List V} {ds : List D} {k : Nat}, ArgsOk K O H bs vs ds → (pinsOf k bs vs).map (·.1) = ioIx k bs
  | _, _, _, _, .nil => rfl
  | _, _, _, k, @ArgsOk.val _ _ _ v d bs vs ds h1 h2 => by
    have := pins_ix (k := k + 1) h2
    unfold ioIx
    rw [← this]
    cases v <;> rfl
  | _, _, _, k, @ArgsOk.io _ _ _ p xs es bs vs ds h1 h2 h3 h4 => by
    have := pins_ix (k := k + 1) h4
    unfold ioIx pinsOf
    rw [List.map_cons, this]
/-- a def keeps its promise, by its body -/
theorem body_ok {N : List Str} {bs : List Bool} {m : Nat} {b : SFn} {t : TS} {vs : List V} {Q : VK} {E : XK} (hb : SndS K W t b) (hm : m = N.length - bs.length) (h : spD K bs (fDef m bs b) vs H Q E) : t { nx := fun _ H' => Q .non H', rt := Q } (L2.start N vs) H := by
  obtain ⟨O, ds, r, fr, outs, ha, hn, hd, ht, eg, q⟩ := h
  obtain ⟨e, ee, eg⟩ := bnd eg
  obtain ⟨o, eo, eg⟩ := bnd eg
  have S := entry (N := N) (m := m) ha hn hd ht ee (by rw [ha.len]; exact hm)
  refine hb _ O _ _ H _ o S eo _ ?_
  have inc : ∀ {O' : List Addr}, Sub (mi H (ioA bs vs)) (pinsOf 0 bs vs) O O' → ∀ a, a ∈ O → a ∈ O' := fun s a z => s.1 a z (by
    by_cases c : a ∈ ioA bs vs
    · exact .inr c
    · obtain ⟨o, h⟩ := hd a z
      exact .inl fun q => by rw [mi_out c, h] at q; cases q)
  have fr1 : ∀ {O' : List Addr} {σ' : L2.St} {H' : Hp} {env' : Env}, Sta K (mi H (ioA bs vs)) O' (pinsOf 0 bs vs) σ' H' env' → ∀ a o, H a = some o → a ∉ ioA bs vs → H' a = some o := fun S' a o z y => S'.base a o (mi_of y z)
  have ix : (pinsOf 0 bs vs).map (·.1) = ioIx 0 bs := pins_ix ha
  have newp : ∀ {O' : List Addr} {σ' : L2.St} {H' : Hp} {env' : Env} {p : Addr}, Sta K (mi H (ioA bs vs)) O' (pinsOf 0 bs vs) σ' H' env' → mi H (ioA bs vs) p = none → H' p = none → H p = none := fun {O' σ' H' env' p} S' z y => by
    by_cases c : p ∈ ioA bs vs
    · obtain ⟨⟨j, p'⟩, c1, c2⟩ := List.mem_map.mp c
      cases c2
      obtain ⟨s1, gs, e1⟩ := S'.pin j _ c1
      obtain ⟨q, xs, k1, k2, k3, _⟩ := S'.ow j gs (.inr e1)
      rw [s1] at k1
      cases k1
      rw [y] at k3
      cases k3
    · rw [mi_out c] at z
      exact z
  cases o with
  | nx env1 =>
    obtain ⟨outs', e1, e2⟩ := bnd eg
    cases e2
    intro O' σ' H' s S'
    rw [← ix] at e1
    exact q _ _ ⟨fr1 S', fun _ => ⟨outs_of S' (inc s) (fun _ z => z) e1, .non⟩, (fun z => nomatch z), (fun z => nomatch z)⟩
  | bk env1 => cases eg
  | ct env1 => cases eg
  | rt rv env1 =>
    cases rv with
    | ex n => cases eg
    | val d =>
      obtain ⟨outs', e1, e2⟩ := bnd eg
      cases e2
      intro O' σ' H' v s ⟨S', dv⟩
      rw [← ix] at e1
      exact q _ _ ⟨fr1 S', fun _ => ⟨outs_of S' (inc s) (fun _ z => z) e1, Dq.mono (mi_sub (inc s)) _ _ dv⟩, (fun z => nomatch z), (fun z => nomatch z)⟩
    | tw dss =>
      obtain ⟨outs', e1, e2⟩ := bnd eg
      cases e2
      intro O' σ' H' v s ⟨p, qs, hv, hp, hnd, hfr, S', hl⟩
      rw [← ix] at e1
      refine q _ _ ⟨fun a o z y => mi_same _ _ (fr1 S' a o z y), (fun z => nomatch z), (fun _ z => nomatch z), fun _ _ => ⟨p, qs, dss, hv, rfl, hp, hnd, fun a ha => newp S' (hfr a ha).1 (mi_in ha), LsOk.mono (mi_sub fun a ha => ?_) (fun _ _ => rfl) hl, outs_of S' (inc s) (fun _ z => z) e1⟩⟩
      rcases List.mem_append.mp ha with z | z
      · exact List.mem_append_left _ z
      · exact List.mem_append_right _ (inc s a z)
    | new es =>
      obtain ⟨outs', e1, e2⟩ := bnd eg
      cases e2
      intro O' σ' H' v s ⟨p, xs, hv, hp, hB, hO, S', dx⟩
      rw [← ix] at e1
      have hpn : H p = none := newp S' hB (mi_in (List.mem_singleton.mpr rfl))
      refine q _ _ ⟨fun a o z y => mi_same _ _ (fr1 S' a o z y), (fun z => nomatch z), (fun _ _ => ⟨p, xs, es, hv, rfl, hpn, hp, DqA.mono (mi_sub (inc s)) _ _ dx, outs_of S' (inc s) (fun _ z => z) e1⟩), (fun _ z => nomatch z)⟩
    | slot i =>
      dsimp only at eg
      split at eg
      · rename_i gs hgs
        obtain ⟨outs', e1, e2⟩ := bnd eg
        cases e2
        intro O' σ' H' v s ⟨S', hv⟩
        rw [← ix] at e1
        obtain ⟨p, xs, rfl, k2, k3, k4, k5⟩ := S'.own (.inl hgs) hv
        have hpn : H p = none := by
          by_cases c : p ∈ ioA bs vs
          · obtain ⟨⟨j, p'⟩, c1, c2⟩ := List.mem_map.mp c
            cases c2
            obtain ⟨s1, hs, e1⟩ := S'.pin j _ c1
            have := S'.sep i j gs hs _ (.inl hgs) (.inr e1) hv s1
            subst this
            rw [hgs] at e1
            cases e1
          · rw [mi_out c] at k5
            exact k5
        have sm : Same (mi H' O') (mi (mi H' [p]) O) := fun a o z => by
          obtain ⟨z1, z2⟩ := mi_some z
          refine mi_of (fun y => z1 (inc s a y)) (mi_of (fun y => ?_) z2)
          rw [List.mem_singleton] at y
          subst y
          exact z1 k2
        have outs2 : OutsOk K O (mi H' [p]) (ioA bs vs) outs := by
          have key : ∀ {l : List (Nat × Addr)} {outs : List (List D)}, (∀ x, x ∈ l → x ∈ pinsOf 0 bs vs) → outE env1 (l.map (·.1)) = some outs → OutsOk K O (mi H' [p]) (l.map (·.2)) outs := by
            intro l
            induction l with
            | nil => intro outs _ e; cases e; trivial
            | cons x l ih =>
              intro outs hl e
              obtain ⟨j, p1⟩ := x
              obtain ⟨s1, hs, e1⟩ := S'.pin j p1 (hl _ List.mem_cons_self)
              rw [List.map_cons] at e
              unfold outE at e
              dsimp only at e
              rw [e1] at e
              obtain ⟨r, e2, e3⟩ := bnd e
              cases e3
              obtain ⟨q, ys, g1, g2, g3, g4, g5⟩ := S'.ow j hs (.inr e1)
              rw [s1] at g1
              cases g1
              have c : p1 ≠ p := fun y => by
                subst y
                have := S'.sep i j gs hs _ (.inl hgs) (.inr e1) hv s1
                subst this
                rw [hgs] at e1
                cases e1
              exact ⟨⟨ys, mi_of (fun y => c (List.mem_singleton.mp y)) g3, DqA.mono sm _ _ g4⟩, ih (fun x hx => hl x (List.mem_cons_of_mem _ hx)) e2⟩
          exact key (fun _ z => z) e1
        exact q _ _ ⟨fr1 S', (fun z => nomatch z), (fun _ _ => ⟨p, xs, gs, rfl, rfl, hpn, k3, DqA.mono sm _ _ k4, outs2⟩), (fun _ z => nomatch z)⟩
      · cases eg
end
end Dv

namespace Dv
open PySem L2

mutual
def noL : D → Bool
  | .lst _ => false
  | .scr _ => false
  | .tup ds => noLs ds
  | .non => true
  | .bl _ => true
  | .int _ => true
  | .str _ => true
  | .adr _ => true
  | .nt ds => noLs ds
  | .dct _ ds => noLs ds
def noLs : List D → Bool
  | [] => true
  | d :: ds => noL d && noLs ds
end
/-- the arguments' things, the own lists handed over, the own lists lent -/
def argD (env : Env) : List Bool → List RV → Option (List D × List Nat × List Nat)
  | [], [] => some ([], [], [])
  | true :: bs, .slot i :: rs => (deref env (.slot i)).bind fun d => (argD env bs rs).bind fun x => some (d :: x.1, i :: x.2.1, x.2.2)
  | false :: bs, .val d :: rs => (argD env bs rs).bind fun x => some (d :: x.1, x.2.1, x.2.2)
  | false :: bs, .slot i :: rs => (deref env (.slot i)).bind fun d => (argD env bs rs).bind fun x => some (d :: x.1, x.2.1, i :: x.2.2)
  | _, _ => none
def putOuts : List Nat → List (List D) → Env → Option Env
  | [], [], env => some env
  | i :: is, ds :: dss, env => (upO i (fun _ => some ds) env).bind fun e => putOuts is dss e
  | _, _, _ => none
def lsOf : List D → Option (List (List D))
  | [] => some []
  | .lst ds :: r => (lsOf r).bind fun x => some (ds :: x)
  | _ => none
theorem lsOf_map : ∀ dss : List (List D), lsOf (dss.map D.lst) = some dss
  | [] => rfl
  | ds :: r => by
    show (lsOf (r.map D.lst)).bind _ = _
    rw [lsOf_map r]
    rfl
def resR (r : D × Bool × List (List D)) : Option RV := match r.2.1, r.1 with
  | true, .lst ds => some (.new ds)
  | true, .tup ds => (lsOf ds).bind fun x => some (.tw x)
  | false, d => some (.val d)
  | _, _ => none
def lentOk (bor : List Nat) : RV → Bool
  | .val d => bor.isEmpty || noL d
  | .new ds => bor.isEmpty || noLs ds
  | .slot _ => false
  | .ex _ => false
  | .tw _ => bor.isEmpty
theorem resR_tw {dss : List (List D)} {outs : List (List D)} {rv : RV} (h : resR (.tup (dss.map D.lst), true, outs) = some rv) : rv = .tw dss := by
  have e : resR (.tup (dss.map D.lst), true, outs) = (lsOf (dss.map D.lst)).bind fun x => some (.tw x) := rfl
  rw [e, lsOf_map] at h
  cases h
  rfl
def fCall (io : List Bool) (g : FF) (fa : AF) : EF := fun env => (fa env).bind fun a => (argD a.2 io a.1).bind fun x => if decide x.2.1.Nodup && decide (∀ i, i ∈ x.2.1 → i ∉ x.2.2) then (g x.1).bind fun r => (putOuts x.2.1 r.2.2 a.2).bind fun e => (resR r).bind fun z => if lentOk x.2.2 z && r.2.2.all (fun ds => x.2.2.isEmpty || noLs ds) then some (z, e) else none else none

section
variable {K : PySem.W.Frag} {B : Hp} {O : List Addr} {I : List (Nat × Addr)} {σ : L2.St} {H H' : Hp} {env env' : Env} {v : V} {t ta tb te : TE} {f fa fb fe : EF} {W : WN}
mutual
/-- a thing without lists does not hang on any list -/
theorem Dq.less {O' : List Addr} (hl : ∀ a, a ∈ O' → a ∈ O ∨ ∃ xs, H a = some (.lst xs)) : ∀ (d : D) (v : V), noL d = true → Dq K (mi H O) v d → Dq K (mi H O') v d
  | .non, _, _, h => by cases h; exact .non
  | .bl b, _, _, h => by cases h; exact .bl b
  | .int i, _, _, h => by cases h; exact .int i
  | .str x, _, _, h => by cases h; exact .str x
  | .lst ds, _, n, h => by simp only [noL] at n; cases n
  | .scr ds, _, n, h => by simp only [noL] at n; cases n
  | .adr a, _, _, h => by cases h; exact .adr a
  | .nt ds, _, n, h => by
    simp only [noL] at n
    cases h with
    | nt h1 h2 =>
      obtain ⟨z1, z2⟩ := mi_some h1
      refine .nt (mi_of (fun y => ?_) z2) (DqA.less hl ds _ n h2)
      rcases hl _ y with y | ⟨xs, y⟩
      · exact z1 y
      · rw [z2] at y
        cases y
  | .dct _ ds, _, n, h => by
    simp only [noL] at n
    cases h with
    | dct h1 h3 h2 =>
      refine .dct ?_ h3 (DqA.less hl ds _ n h2)
      rcases h1 with h1 | ⟨od, h1⟩
      · obtain ⟨z1, z2⟩ := mi_some h1
        refine .inl (mi_of (fun y => ?_) z2)
        rcases hl _ y with y | ⟨xs, y⟩
        · exact z1 y
        · rw [z2] at y
          cases y
      · obtain ⟨z1, z2⟩ := mi_some h1
        refine .inr ⟨od, mi_of (fun y => ?_) z2⟩
        rcases hl _ y with y | ⟨xs, y⟩
        · exact z1 y
        · rw [z2] at y
          cases y
  | .tup ds, _, n, h => by
    simp only [noL] at n
    cases h with
    | tup h1 h2 =>
      refine .tup ?_ (DqA.less hl ds _ n h2)
      rcases h1 with (h | ⟨o, h⟩) | h
      · obtain ⟨z1, z2⟩ := mi_some h
        refine .inl (.inl (mi_of (fun y => ?_) z2))
        rcases hl _ y with y | ⟨xs, y⟩
        · exact z1 y
        · rw [z2] at y
          cases y
      · obtain ⟨z1, z2⟩ := mi_some h
        refine .inl (.inr ⟨o, mi_of (fun y => ?_) z2⟩)
        rcases hl _ y with y | ⟨xs, y⟩
        · exact z1 y
        · rw [z2] at y
          cases y
      · exact .inr h
theorem DqA.less {O' : List Addr} (hl : ∀ a, a ∈ O' → a ∈ O ∨ ∃ xs, H a = some (.lst xs)) : ∀ (ds : List D) (vs : List V), noLs ds = true → DqA K (mi H O) vs ds → DqA K (mi H O') vs ds
  | [], _, _, h => by cases h; exact .nil
  | d :: ds, _, n, h => by
    simp only [noLs, Bool.and_eq_true] at n
    cases h with
    | cons h1 h2 => exact .cons (Dq.less hl d _ n.1 h1) (DqA.less hl ds _ n.2 h2)
end
/-- the places of some names -/
def addrs (σ : L2.St) : List Nat → List Addr
  | [] => []
  | i :: is => match σ[i]? with
    | some (some (.ref p)) => p :: addrs σ is
    | _ => addrs σ is
theorem addrs_mem {p : Addr} : ∀ {l : List Nat}, p ∈ addrs σ l → ∃ i, i ∈ l ∧ σ[i]? = some (some (.ref p))
  | [], h => by cases h
  | i :: l, h => by
    unfold addrs at h
    split at h
    · rename_i q hq
      rcases List.mem_cons.mp h with rfl | h
      · exact ⟨i, List.mem_cons_self, hq⟩
      · obtain ⟨j, h1, h2⟩ := addrs_mem h
        exact ⟨j, List.mem_cons_of_mem _ h1, h2⟩
    · obtain ⟨j, h1, h2⟩ := addrs_mem h
      exact ⟨j, List.mem_cons_of_mem _ h1, h2⟩
theorem mem_addrs {p : Addr} {i : Nat} : ∀ {l : List Nat}, i ∈ l → σ[i]? = some (some (.ref p)) → p ∈ addrs σ l
  | [], h, _ => by cases h
  | j :: l, h, e => by
    unfold addrs
    rcases List.mem_cons.mp h with rfl | h
    · rw [e]
      exact List.mem_cons_self
    · split
      · exact List.mem_cons_of_mem _ (mem_addrs h e)
      · exact mem_addrs h e
theorem args_ok (S : Sta K B O I σ H env) {bor : List Nat} : ∀ {bs : List Bool} {vs : List V} {rs : List RV} {x : List D × List Nat × List Nat} {k : Nat}, PostA K B O I σ H env vs rs → argD env bs rs = some x → (∀ i, i ∈ x.2.2 → i ∈ bor) → (∀ i, i ∈ x.2.1 → i ∉ bor) →
    (∀ i, i ∈ bor → ∃ ds, OwnAt env i ds) →
    ArgsOk K (O.filter fun a => decide (a ∉ addrs σ bor)) H bs vs x.1 ∧ (pinsOf k bs vs).map (·.2) = addrs σ x.2.1 ∧ (∀ i, i ∈ x.2.1 → ∃ ds p, OwnAt env i ds ∧ σ[i]? = some (some (.ref p)))
  | bs, _, _, x, k, .nil, e, hb, hi, ho => by
    cases bs with
    | nil => cases e; exact ⟨.nil, rfl, fun _ z => nomatch z⟩
    | cons b bs => cases b <;> cases e
  | bs, _, _, x, k, @PostA.cons _ _ _ _ _ _ _ v r vs rs P t, e, hb, hi, ho => by
    have sub : ∀ a, a ∈ O.filter (fun a => decide (a ∉ addrs σ bor)) → a ∈ O := fun a z => (List.mem_filter.mp z).1
    cases bs with
    | nil => cases e
    | cons b bs =>
      cases b with
      | true =>
        cases r with
        | ex n => cases e
        | val d => cases e
        | new ds => cases e
        | tw ds => cases e
        | slot i =>
          obtain ⟨d, e1, e⟩ := bnd e
          obtain ⟨y, e2, e⟩ := bnd e
          cases e
          obtain ⟨ds, rfl, ow⟩ := ownAt_of e1
          obtain ⟨p, xs, rfl, k2, k3, k4, k5⟩ := S.own ow P.2
          obtain ⟨g1, g2, g3⟩ := args_ok S (k := k + 1) t e2 (fun j z => hb j z) (fun j z => hi j (List.mem_cons_of_mem _ z)) ho
          have hpf : p ∈ O.filter fun a => decide (a ∉ addrs σ bor) := by
            refine List.mem_filter.mpr ⟨k2, decide_eq_true fun z => ?_⟩
            obtain ⟨j, z1, z2⟩ := addrs_mem z
            obtain ⟨es, z3⟩ := ho j z1
            have := S.sep i j ds es p ow z3 P.2 z2
            subst this
            exact hi i List.mem_cons_self z1
          refine ⟨.io hpf k3 (DqA.mono (mi_sub sub) _ _ k4) g1, ?_, fun j z => ?_⟩
          · unfold pinsOf addrs
            rw [P.2, List.map_cons, g2]
          · rcases List.mem_cons.mp z with rfl | z
            · exact ⟨ds, p, ow, P.2⟩
            · exact g3 j z
      | false =>
        have pin : ∀ (v : V), (pinsOf k (false :: bs) (v :: vs)) = pinsOf (k + 1) bs vs := fun v => by cases v <;> rfl
        cases r with
        | ex n => cases e
        | val d =>
          obtain ⟨y, e2, e⟩ := bnd e
          cases e
          obtain ⟨g1, g2, g3⟩ := args_ok S (k := k + 1) t e2 (fun j z => hb j z) (fun j z => hi j z) ho
          exact ⟨.val (Dq.mono (mi_sub sub) _ _ P.2) g1, by rw [pin]; exact g2, g3⟩
        | new ds =>
          obtain ⟨y, e2, e⟩ := bnd e
          cases e
          obtain ⟨g1, g2, g3⟩ := args_ok S (k := k + 1) t e2 (fun j z => hb j z) (fun j z => hi j z) ho
          exact ⟨.val (Dq.mono (mi_sub sub) _ _ P.2) g1, by rw [pin]; exact g2, g3⟩
        | tw ds =>
          obtain ⟨y, e2, e⟩ := bnd e
          cases e
          obtain ⟨g1, g2, g3⟩ := args_ok S (k := k + 1) t e2 (fun j z => hb j z) (fun j z => hi j z) ho
          exact ⟨.val (Dq.mono (mi_sub sub) _ _ P.2) g1, by rw [pin]; exact g2, g3⟩
        | slot i =>
          obtain ⟨d, e1, e⟩ := bnd e
          obtain ⟨y, e2, e⟩ := bnd e
          cases e
          obtain ⟨ds, rfl, ow⟩ := ownAt_of e1
          obtain ⟨p, xs, rfl, k2, k3, k4, k5⟩ := S.own ow P.2
          obtain ⟨g1, g2, g3⟩ := args_ok S (k := k + 1) t e2 (fun j z => hb j (List.mem_cons_of_mem _ z)) (fun j z => hi j z) ho
          have hpf : p ∉ O.filter fun a => decide (a ∉ addrs σ bor) := fun z => of_decide_eq_true (List.mem_filter.mp z).2 (mem_addrs (hb i List.mem_cons_self) P.2)
          exact ⟨.val (.lst (mi_of hpf k3) (DqA.mono (mi_sub sub) _ _ k4)) g1, by rw [pin]; exact g2, g3⟩
theorem lent_own {bs : List Bool} : ∀ {rs : List RV} {bs : List Bool} {x : List D × List Nat × List Nat}, argD env bs rs = some x → ∀ i, i ∈ x.2.2 → ∃ ds, OwnAt env i ds
  | [], bs, x, e, i, h => by
    cases bs with
    | nil => cases e; cases h
    | cons b bs => cases b <;> cases e
  | r :: rs, bs, x, e, i, h => by
    cases bs with
    | nil => cases e
    | cons b bs =>
      cases b with
      | true =>
        cases r with
        | ex n => cases e
        | val d => cases e
        | new ds => cases e
        | tw ds => cases e
        | slot j =>
          obtain ⟨d, e1, e⟩ := bnd e
          obtain ⟨y, e2, e⟩ := bnd e
          cases e
          exact lent_own (bs := bs) e2 i h
      | false =>
        cases r with
        | ex n => cases e
        | val d =>
          obtain ⟨y, e2, e⟩ := bnd e
          cases e
          exact lent_own (bs := bs) e2 i h
        | new ds => cases e
        | tw ds => cases e
        | slot j =>
          obtain ⟨d, e1, e⟩ := bnd e
          obtain ⟨y, e2, e⟩ := bnd e
          cases e
          rcases List.mem_cons.mp h with rfl | h
          · obtain ⟨ds, _, ow⟩ := ownAt_of e1
            exact ⟨ds, ow⟩
          · exact lent_own (bs := bs) e2 i h
/-- a state but for what some names own -/
structure StaX (K : PySem.W.Frag) (B : Hp) (O : List Addr) (I : List (Nat × Addr)) (σ : L2.St) (H : Hp) (env : Env) (X : List Nat) : Prop where
  len : σ.length = env.length
  fz : ∀ (i : Nat) (d : D), env[i]? = some (SV.fz d) → ∃ v, σ[i]? = some (some v) ∧ Dq K (mi H O) v d
  ow : ∀ (i : Nat) (ds : List D), OwnAt env i ds → ∃ p, σ[i]? = some (some (.ref p)) ∧ p ∈ O ∧ B p = none ∧ (i ∉ X → ∃ xs, H p = some (.lst xs) ∧ DqA K (mi H O) xs ds)
  sep : ∀ (i j : Nat) (ds es : List D) (p : Addr), OwnAt env i ds → OwnAt env j es → σ[i]? = some (some (.ref p)) → σ[j]? = some (some (.ref p)) → i = j
  base : Same B H
  dom : ∀ p, p ∈ O → ∃ o, H p = some o
  pin : ∀ (j : Nat) (p : Addr), (j, p) ∈ I → σ[j]? = some (some (.ref p)) ∧ ∃ ds, env[j]? = some (SV.io ds)
  nw : NwOk K B O σ H env
  nt : ∀ (p : Addr) (xs : List V), p ∈ O → H p ≠ some (.tup xs)
theorem StaX.done (S : StaX K B O I σ H env []) : Sta K B O I σ H env :=
  ⟨S.len, S.fz, fun i ds h => by
    obtain ⟨p, h1, h2, h3, h4⟩ := S.ow i ds h
    obtain ⟨xs, h5, h6⟩ := h4 (by simp)
    exact ⟨p, xs, h1, h2, h5, h6, h3⟩, S.sep, S.base, S.dom, S.pin, S.nw, S.nt⟩
theorem StaX.step {i : Nat} {X : List Nat} {p : Addr} {xs : List V} {es : List D} (S : StaX K B O I σ H env (i :: X)) (hi : i ∉ X) (hs : σ[i]? = some (some (.ref p))) (hp : H p = some (.lst xs)) (hx : DqA K (mi H O) xs es)
    (e : upO i (fun _ => some es) env = some env') : StaX K B O I σ H env' X := by
  obtain ⟨ds, es', k, h1, h2, hk, h3, rfl⟩ := upO_of e
  cases h2
  have hl : i < env.length := (List.getElem?_eq_some_iff.mp h3).1
  have own' : ∀ j gs, OwnAt (env.set i (k es)) j gs → ∃ gs', OwnAt env j gs' ∧ (j ≠ i → gs' = gs) ∧ (j = i → gs = es) := fun j gs z => by
    by_cases c : j = i
    · subst c
      refine ⟨ds, h1, fun z => absurd rfl z, fun _ => ?_⟩
      unfold OwnAt at z
      rw [List.getElem?_set_self hl] at z
      rcases hk with rfl | rfl <;> rcases z with z | z <;> cases z <;> rfl
    · exact ⟨gs, (own_set c).mp z, fun _ => rfl, fun z => absurd z c⟩
  refine ⟨by simp [S.len], fun j d hj => ?_, fun j gs hj => ?_, fun j l gs fs q hj hl' e1 e2 => ?_, S.base, S.dom, fun j q hj => ?_, ?_, S.nt⟩
  · by_cases c : j = i
    · subst c
      rw [List.getElem?_set_self hl] at hj
      rcases hk with rfl | rfl <;> cases hj
    · rw [List.getElem?_set_ne (Ne.symm c)] at hj
      exact S.fz j d hj
  · obtain ⟨gs', o1, o2, o3⟩ := own' j gs hj
    obtain ⟨q, k1, k2, k3, k4⟩ := S.ow j gs' o1
    refine ⟨q, k1, k2, k3, fun hX => ?_⟩
    by_cases c : j = i
    · subst c
      rw [o3 rfl]
      rw [hs] at k1
      cases k1
      exact ⟨xs, hp, hx⟩
    · rw [← o2 c]
      exact k4 (fun z => (List.mem_cons.mp z).elim c hX)
  · obtain ⟨gs', o1, _⟩ := own' j gs hj
    obtain ⟨fs', o2, _⟩ := own' l fs hl'
    exact S.sep j l gs' fs' q o1 o2 e1 e2
  · obtain ⟨k1, gs, k2⟩ := S.pin j q hj
    by_cases c : j = i
    · subst c
      rw [h3] at k2
      rcases hk with rfl | rfl
      · cases k2
      · exact ⟨k1, es, List.getElem?_set_self hl⟩
    · rw [List.getElem?_set_ne (Ne.symm c)]
      exact ⟨k1, gs, k2⟩
  · refine NwOk.go S.nw (fun j w hj => ⟨(nw_set hl (fun w z => by rcases hk with rfl | rfl <;> cases z) hj).2, rfl⟩) (fun j gs a hj e => ?_) (fun a g1 g2 _ _ => ⟨g1, g2, rfl⟩) (Same.refl _) S.dom
    obtain ⟨gs', o1, _⟩ := own' j gs hj
    exact .inl ⟨gs', o1, e⟩
theorem StaX.all {Oc : List Addr} {ok : List D → Bool} (less : ∀ (ds : List D) (xs : List V), ok ds = true → DqA K (mi H Oc) xs ds → DqA K (mi H O) xs ds) : ∀ {X : List Nat} {env : Env} {outs : List (List D)}, StaX K B O I σ H env X → outs.all ok = true → X.Nodup → (∀ i, i ∈ X → ∃ p, σ[i]? = some (some (.ref p))) → OutsOk K Oc H (addrs σ X) outs → putOuts X outs env = some env' → Sta K B O I σ H env'
  | [], env, outs, S, _, _, _, ho, e => by
    cases outs with
    | nil => cases e; exact S.done
    | cons a b => cases e
  | i :: X, env, outs, S, ha, hn, hp, ho, e => by
    cases outs with
    | nil => cases e
    | cons ds dss =>
      obtain ⟨e1, h1, h2⟩ := bnd e
      obtain ⟨p, hs⟩ := hp i List.mem_cons_self
      unfold addrs at ho
      rw [hs] at ho
      obtain ⟨⟨xs, g1, g2⟩, g3⟩ := ho
      rw [List.nodup_cons] at hn
      rw [List.all_cons, Bool.and_eq_true] at ha
      exact StaX.all less (S.step hn.1 hs g1 (less _ _ ha.1 g2) h1) ha.2 hn.2 (fun j z => hp j (List.mem_cons_of_mem _ z)) g3 h2
theorem addrs_nodup (S : Sta K B O I σ H env) : ∀ {X : List Nat}, X.Nodup → (∀ i, i ∈ X → ∃ ds p, OwnAt env i ds ∧ σ[i]? = some (some (.ref p))) → (addrs σ X).Nodup
  | [], _, _ => List.nodup_nil
  | i :: X, hn, ho => by
    rw [List.nodup_cons] at hn
    obtain ⟨ds, p, h1, h2⟩ := ho i List.mem_cons_self
    unfold addrs
    rw [h2]
    refine List.nodup_cons.mpr ⟨fun z => ?_, addrs_nodup S hn.2 fun j z => ho j (List.mem_cons_of_mem _ z)⟩
    obtain ⟨j, z1, z2⟩ := addrs_mem z
    obtain ⟨es, q, k1, k2⟩ := ho j (List.mem_cons_of_mem _ z1)
    have := S.sep i j ds es p h1 k1 h2 z2
    subst this
    exact hn.1 z1
theorem outs_dom {Oc : List Addr} {p : Addr} : ∀ {ps : List Addr} {outs : List (List D)}, OutsOk K Oc H ps outs → p ∈ ps → ∃ xs, H p = some (.lst xs)
  | [], outs, _, h => by cases h
  | q :: ps, outs, ho, h => by
    cases outs with
    | nil => cases ho
    | cons ds dss =>
      obtain ⟨⟨xs, g1, g2⟩, g3⟩ := ho
      rcases List.mem_cons.mp h with rfl | h
      · exact ⟨xs, g1⟩
      · exact outs_dom g3 h
/-- the state behind a call -/
theorem called {ios bor : List Nat} {outs : List (List D)} (S : Sta K B O I σ H env) (hn : ios.Nodup) (hio : ∀ i, i ∈ ios → ∃ ds p, OwnAt env i ds ∧ σ[i]? = some (some (.ref p))) (hdis : ∀ i, i ∈ ios → i ∉ bor) (hbo : ∀ i, i ∈ bor → ∃ ds, OwnAt env i ds)
    (frame : ∀ a o, H a = some o → a ∉ addrs σ ios → H' a = some o) (ho : OutsOk K (O.filter fun a => decide (a ∉ addrs σ bor)) H' (addrs σ ios) outs) (hl : outs.all (fun ds => bor.isEmpty || noLs ds) = true) (e : putOuts ios outs env = some env') :
    Sta K B O I σ H' env' ∧ (∀ d v, (bor.isEmpty || noL d) = true → Dq K (mi H' (O.filter fun a => decide (a ∉ addrs σ bor))) v d → Dq K (mi H' O) v d) ∧
      (∀ ds vs, (bor.isEmpty || noLs ds) = true → DqA K (mi H' (O.filter fun a => decide (a ∉ addrs σ bor))) vs ds → DqA K (mi H' O) vs ds) := by
  have hps : ∀ a, a ∈ addrs σ ios → ∃ i ds, i ∈ ios ∧ OwnAt env i ds ∧ σ[i]? = some (some (.ref a)) := fun a z => by
    obtain ⟨i, z1, z2⟩ := addrs_mem z
    obtain ⟨ds, p, z3, z4⟩ := hio i z1
    exact ⟨i, ds, z1, z3, z2⟩
  have psO : ∀ a, a ∈ addrs σ ios → a ∈ O ∧ B a = none := fun a z => by
    obtain ⟨i, ds, z1, z2, z3⟩ := hps a z
    obtain ⟨p, xs, k1, k2, k3, k4, k5⟩ := S.ow i ds z2
    rw [z3] at k1
    cases k1
    exact ⟨k2, k5⟩
  have hl' : ∀ a, a ∈ O → a ∈ (O.filter fun a => decide (a ∉ addrs σ bor)) ∨ ∃ xs, H' a = some (.lst xs) := fun a z => by
    by_cases c : a ∈ addrs σ bor
    · obtain ⟨i, z1, z2⟩ := addrs_mem c
      obtain ⟨ds, z3⟩ := hbo i z1
      obtain ⟨p, xs, k1, k2, k3, k4, k5⟩ := S.ow i ds z3
      rw [z2] at k1
      cases k1
      refine .inr ⟨xs, frame _ _ k3 fun y => ?_⟩
      obtain ⟨j, es, y1, y2, y3⟩ := hps _ y
      have := S.sep i j ds es _ z3 y2 z2 y3
      subst this
      exact hdis i y1 z1
    · exact .inl (List.mem_filter.mpr ⟨z, decide_eq_true c⟩)
  have e0 : bor.isEmpty = true → (O.filter fun a => decide (a ∉ addrs σ bor)) = O := fun z => by
    have : bor = [] := List.isEmpty_iff.mp z
    subst this
    refine List.filter_eq_self.mpr fun a _ => decide_eq_true fun y => ?_
    cases y
  have less1 : ∀ d v, (bor.isEmpty || noL d) = true → Dq K (mi H' (O.filter fun a => decide (a ∉ addrs σ bor))) v d → Dq K (mi H' O) v d := fun d v z h => by
    rcases Bool.or_eq_true _ _ |>.mp z with z | z
    · rw [e0 z] at h
      exact h
    · exact Dq.less hl' d v z h
  have less2 : ∀ ds vs, (bor.isEmpty || noLs ds) = true → DqA K (mi H' (O.filter fun a => decide (a ∉ addrs σ bor))) vs ds → DqA K (mi H' O) vs ds := fun ds vs z h => by
    rcases Bool.or_eq_true _ _ |>.mp z with z | z
    · rw [e0 z] at h
      exact h
    · exact DqA.less hl' ds vs z h
  refine ⟨?_, less1, less2⟩
  have sm : Same (mi H O) (mi H' O) := fun a o z => by
    obtain ⟨z1, z2⟩ := mi_some z
    exact mi_of z1 (frame _ _ z2 fun y => z1 (psO a y).1)
  have X : StaX K B O I σ H' env ios := by
    refine ⟨S.len, fun i d h => ?_, fun i ds h => ?_, S.sep, fun a o h => ?_, fun p hp => ?_, S.pin, ?_, fun p xs hp => ?_⟩
    · obtain ⟨v, h1, h2⟩ := S.fz i d h
      exact ⟨v, h1, Dq.mono sm _ _ h2⟩
    · obtain ⟨p, xs, k1, k2, k3, k4, k5⟩ := S.ow i ds h
      refine ⟨p, k1, k2, k5, fun hX => ⟨xs, frame _ _ k3 fun y => ?_, DqA.mono sm _ _ k4⟩⟩
      obtain ⟨j, es, y1, y2, y3⟩ := hps _ y
      have := S.sep i j ds es _ h y2 k1 y3
      subst this
      exact hX y1
    · refine frame _ _ (S.base a o h) fun y => ?_
      rw [(psO a y).2] at h
      cases h
    · by_cases c : p ∈ addrs σ ios
      · obtain ⟨xs, z⟩ := outs_dom ho c
        exact ⟨_, z⟩
      · obtain ⟨o, z⟩ := S.dom p hp
        exact ⟨o, frame _ _ z c⟩
    · refine NwOk.go S.nw (fun j w hj => ⟨hj, rfl⟩) (fun j ds a hj e => .inl ⟨ds, hj, e⟩) (fun a g1 g2 ⟨o, g3⟩ g4 => ⟨g1, g2, ?_⟩) sm S.dom
      rw [g3]
      refine frame _ _ g3 fun y => ?_
      obtain ⟨j, es, y1, y2, y3⟩ := hps _ y
      exact g4 j es y2 y3
    · by_cases c : p ∈ addrs σ ios
      · obtain ⟨ys, z⟩ := outs_dom ho c
        rw [z]
        exact fun z => by cases z
      · exact S.ntS hp (fun o z => frame _ _ z c) xs
  exact StaX.all (ok := fun ds => bor.isEmpty || noLs ds) (fun ds xs z h => less2 ds xs z h) X hl hn (fun i z => by
    obtain ⟨ds, p, z1, z2⟩ := hio i z
    exact ⟨p, z2⟩) ho e
theorem snd_call {io : List Bool} {g : FF} {E : XK} {t : TA} {fa : AF} (h : SndA K t fa) : Snd K (tCall (spD K io g) [] E t) (fCall io g fa) := by
  intro B O I σ H env rv env' S e Q q
  obtain ⟨⟨rs, env1⟩, e1, e⟩ := bnd e
  obtain ⟨⟨ds, ios, bor⟩, e2, e⟩ := bnd e
  dsimp only at e2 e
  split at e
  · rename_i hc
    rw [Bool.and_eq_true] at hc
    have hn : ios.Nodup := of_decide_eq_true hc.1
    have hdis : ∀ i, i ∈ ios → i ∉ bor := of_decide_eq_true hc.2
    obtain ⟨⟨r, fr, outs⟩, e3, e⟩ := bnd e
    obtain ⟨env2, e4, e⟩ := bnd e
    obtain ⟨z, e5, e⟩ := bnd e
    dsimp only at e4 e
    split at e
    · rename_i hl
      cases e
      rw [Bool.and_eq_true] at hl
      refine h B O I σ H env rs env1 S e1 _ fun vs H1 S1 P1 => ?_
      have hbo := lent_own (bs := io) e2
      obtain ⟨g1, g2, g3⟩ := args_ok S1 (bor := bor) (k := 0) P1 e2 (fun _ y => y) hdis hbo
      have g2' : ioA io vs = addrs σ ios := g2
      rw [List.append_nil]
      refine ⟨_, ds, r, fr, outs, g1, by rw [g2']; exact addrs_nodup S1 hn g3, fun p hp => S1.dom p (List.mem_filter.mp hp).1, fun p xs hp => S1.nt p xs (List.mem_filter.mp hp).1, e3, fun v H' R => ?_⟩
      rw [g2'] at R
      cases fr with
      | false =>
        obtain ⟨o1, o2⟩ := R.old rfl
        obtain ⟨S2, l1, l2⟩ := called S1 hn g3 hdis hbo R.frame o1 hl.2 e4
        have ez : rv = RV.val r := by
          unfold resR at e5
          cases r <;> cases e5 <;> rfl
        subst ez
        exact q _ _ ⟨S2, l1 _ _ hl.1 o2⟩
      | true =>
        by_cases tp : isTp r = true
        · obtain ⟨p, qs, dss, rfl, rfl, hp', hnd, hfr, hls, o1⟩ := R.tw rfl tp
          have fr2 : ∀ a o, H1 a = some o → a ∉ addrs σ ios → mi H' qs a = some o := fun a o y1 y2 => mi_of (fun y => by
            rw [hfr a y] at y1
            cases y1) (R.frame a o y1 y2)
          obtain ⟨S2, l1, l2⟩ := called S1 hn g3 hdis hbo fr2 o1 hl.2 e4
          have ez := resR_tw e5
          subst ez
          have be : bor = [] := List.isEmpty_iff.mp hl.1
          subst be
          have eO : (O.filter fun a => decide (a ∉ addrs σ [])) = O := List.filter_eq_self.mpr fun a _ => decide_eq_true fun y => by cases y
          rw [eO] at hls
          exact q _ _ ⟨p, qs, rfl, hp', hnd, fun a ha => ⟨S1.base.free (hfr a ha), not_dom S1.dom (hfr a ha)⟩, S2, hls⟩
        obtain ⟨p, xs, rs', rfl, rfl, hp, hp', hx, o1⟩ := R.new rfl (Bool.eq_false_iff.mpr tp)
        have fr2 : ∀ a o, H1 a = some o → a ∉ addrs σ ios → mi H' [p] a = some o := fun a o y1 y2 => mi_of (fun y => by
          rw [List.mem_singleton] at y
          subst y
          rw [hp] at y1
          cases y1) (R.frame a o y1 y2)
        obtain ⟨S2, l1, l2⟩ := called S1 hn g3 hdis hbo fr2 o1 hl.2 e4
        cases e5
        exact q _ _ ⟨p, xs, rfl, hp', S1.base.free hp, not_dom S1.dom hp, S2, l2 _ _ hl.1 hx⟩
    · cases e
  · cases e
/-! ### own lists given away: a call whose result may be (part of) a lent list -/
def SndM (K : PySem.W.Frag) (t : TE) (f : EF) : Prop := ∀ B O I σ H env rv env', Sta K B O I σ H env → f env = some (rv, env') →
  ∀ Q : VK, (∀ O' v H', Sub B I O O' → Post K B O' I σ H' env' v rv → Q v H') → t σ H Q
def dropAll : List Nat → Env → Option Env
  | [], env => some env
  | i :: is, env => (dropAll is env).bind fun e => putS i .no e
theorem drop_get {i : Nat} {s : SV} : ∀ {l : List Nat} {env env' : Env}, dropAll l env = some env' → env'[i]? = some s → s ≠ .no → i ∉ l ∧ env[i]? = some s
  | [], _, _, e, h, _ => by cases e; exact ⟨by simp, h⟩
  | j :: l, env, env', e, h, n => by
    obtain ⟨e1, h1, h2⟩ := bnd e
    obtain ⟨k1, k2, rfl⟩ := putS_of h2
    by_cases c : i = j
    · subst c
      rw [List.getElem?_set_self k2] at h
      cases h
      exact absurd rfl n
    · rw [List.getElem?_set_ne (Ne.symm c)] at h
      obtain ⟨g1, g2⟩ := drop_get h1 h n
      exact ⟨fun z => (List.mem_cons.mp z).elim c g1, g2⟩
theorem drop_keep {i : Nat} : ∀ {l : List Nat} {env env' : Env}, dropAll l env = some env' → i ∉ l → env'[i]? = env[i]?
  | [], _, _, e, _ => by cases e; rfl
  | j :: l, env, env', e, h => by
    obtain ⟨e1, h1, h2⟩ := bnd e
    obtain ⟨k1, k2, rfl⟩ := putS_of h2
    have c : j ≠ i := fun z => h (by rw [z]; exact List.mem_cons_self)
    rw [List.getElem?_set_ne c]
    exact drop_keep h1 fun z => h (List.mem_cons_of_mem _ z)
theorem drop_len : ∀ {l : List Nat} {env env' : Env}, dropAll l env = some env' → env'.length = env.length
  | [], _, _, e => by cases e; rfl
  | j :: l, env, env', e => by
    obtain ⟨e1, h1, h2⟩ := bnd e
    obtain ⟨k1, k2, rfl⟩ := putS_of h2
    rw [List.length_set, drop_len h1]
theorem drop_io {i : Nat} {ds : List D} : ∀ {l : List Nat} {env env' : Env}, dropAll l env = some env' → env[i]? = some (.io ds) → i ∉ l
  | [], _, _, _, _ => by simp
  | j :: l, env, env', e, h => by
    obtain ⟨e1, h1, h2⟩ := bnd e
    obtain ⟨k1, k2, rfl⟩ := putS_of h2
    have g := drop_io h1 h
    intro z
    rcases List.mem_cons.mp z with rfl | z
    · rw [← drop_keep h1 g] at h
      rw [isIo_of h] at k1
      cases k1
    · exact g z
theorem Sta.shrink {bor : List Nat} (S : Sta K B O I σ H env) (hb : ∀ i, i ∈ bor → ∃ ds, OwnAt env i ds) (e : dropAll bor env = some env') :
    Sub B I O (O.filter fun a => decide (a ∉ addrs σ bor)) ∧ Sta K B (O.filter fun a => decide (a ∉ addrs σ bor)) I σ H env' := by
  have sub : ∀ a, a ∈ O.filter (fun a => decide (a ∉ addrs σ bor)) → a ∈ O := fun a z => (List.mem_filter.mp z).1
  have own' : ∀ i ds, OwnAt env' i ds → i ∉ bor ∧ OwnAt env i ds := fun i ds z => by
    rcases z with z | z
    · obtain ⟨g1, g2⟩ := drop_get e z (by simp)
      exact ⟨g1, .inl g2⟩
    · obtain ⟨g1, g2⟩ := drop_get e z (by simp)
      exact ⟨g1, .inr g2⟩
  refine ⟨⟨fun a z y => List.mem_filter.mpr ⟨z, decide_eq_true fun w => ?_⟩, fun a z => .inl (sub a z)⟩, ?_⟩
  · obtain ⟨i, w1, w2⟩ := addrs_mem w
    obtain ⟨ds, w3⟩ := hb i w1
    obtain ⟨p, xs, k1, k2, k3, k4, k5⟩ := S.ow i ds w3
    rw [w2] at k1
    cases k1
    rcases y with y | y
    · exact y k5
    · obtain ⟨⟨j, p'⟩, y1, y2⟩ := List.mem_map.mp y
      cases y2
      obtain ⟨q1, es, q2⟩ := S.pin j _ y1
      have := S.sep i j ds es _ w3 (.inr q2) w2 q1
      subst this
      exact drop_io e q2 w1
  · refine ⟨by rw [drop_len e]; exact S.len, fun i d h => ?_, fun i ds h => ?_, fun i j ds es p hi hj a b => ?_, S.base, fun p hp => S.dom p (sub p hp), fun j p hj => ?_, ?_, fun p xs hp => S.nt p xs (sub p hp)⟩
    · obtain ⟨g1, g2⟩ := drop_get e h (by simp)
      obtain ⟨v, h1, h2⟩ := S.fz i d g2
      exact ⟨v, h1, Dq.mono (mi_sub sub) _ _ h2⟩
    · obtain ⟨g1, g2⟩ := own' i ds h
      obtain ⟨p, xs, k1, k2, k3, k4, k5⟩ := S.ow i ds g2
      refine ⟨p, xs, k1, List.mem_filter.mpr ⟨k2, decide_eq_true fun w => ?_⟩, k3, DqA.mono (mi_sub sub) _ _ k4, k5⟩
      obtain ⟨j, w1, w2⟩ := addrs_mem w
      obtain ⟨es, w3⟩ := hb j w1
      have := S.sep i j ds es p g2 w3 k1 w2
      subst this
      exact g1 w1
    · exact S.sep i j ds es p (own' i ds hi).2 (own' j es hj).2 a b
    · obtain ⟨q1, ds, q2⟩ := S.pin j p hj
      exact ⟨q1, ds, by rw [drop_keep e (drop_io e q2)]; exact q2⟩
    · refine NwOk.go S.nw (fun j w hj => ⟨(drop_get e hj (fun z => nomatch z)).2, rfl⟩) (fun j ds a hj e => .inl ⟨ds, (own' j ds hj).2, e⟩) (fun a g1 g2 _ g4 => ⟨List.mem_filter.mpr ⟨g1, decide_eq_true fun w => ?_⟩, g2, rfl⟩) (mi_sub sub) S.dom
      obtain ⟨j, w1, w2⟩ := addrs_mem w
      obtain ⟨es, w3⟩ := hb j w1
      exact g4 j es w3 w2
def fCallM (io : List Bool) (g : FF) (fa : AF) : EF := fun env => (fa env).bind fun a => (argD a.2 io a.1).bind fun x => if decide x.2.1.Nodup && decide (∀ i, i ∈ x.2.1 → i ∉ x.2.2) then (g x.1).bind fun r => (putOuts x.2.1 r.2.2 a.2).bind fun e => (resR r).bind fun z => if r.2.2.all (fun ds => x.2.2.isEmpty || noLs ds) then (dropAll x.2.2 e).bind fun e2 => some (z, e2) else none else none
theorem putOuts_own : ∀ {is : List Nat} {outs : List (List D)} {env env' : Env} {i : Nat} {ds : List D}, putOuts is outs env = some env' → OwnAt env i ds → ∃ es, OwnAt env' i es
  | [], outs, env, env', i, ds, e, h => by
    cases outs with
    | nil => cases e; exact ⟨ds, h⟩
    | cons a b => cases e
  | j :: is, outs, env, env', i, ds, e, h => by
    cases outs with
    | nil => cases e
    | cons a b =>
      obtain ⟨e1, h1, h2⟩ := bnd e
      obtain ⟨ds', es, k, o1, _, hk, o3, rfl⟩ := upO_of h1
      have hl : j < env.length := (List.getElem?_eq_some_iff.mp o3).1
      by_cases c : i = j
      · subst c
        refine putOuts_own (ds := es) h2 ?_
        unfold OwnAt
        rw [List.getElem?_set_self hl]
        rcases hk with rfl | rfl
        · exact .inl rfl
        · exact .inr rfl
      · exact putOuts_own h2 ((own_set c).mpr h)
theorem sndM_call {io : List Bool} {g : FF} {E : XK} {t : TA} {fa : AF} (h : SndA K t fa) : SndM K (tCall (spD K io g) [] E t) (fCallM io g fa) := by
  intro B O I σ H env rv env' S e Q q
  obtain ⟨⟨rs, env1⟩, e1, e⟩ := bnd e
  obtain ⟨⟨ds, ios, bor⟩, e2, e⟩ := bnd e
  dsimp only at e2 e
  split at e
  · rename_i hc
    rw [Bool.and_eq_true] at hc
    have hn : ios.Nodup := of_decide_eq_true hc.1
    have hdis : ∀ i, i ∈ ios → i ∉ bor := of_decide_eq_true hc.2
    obtain ⟨⟨r, fr, outs⟩, e3, e⟩ := bnd e
    obtain ⟨env2, e4, e⟩ := bnd e
    obtain ⟨z, e5, e⟩ := bnd e
    dsimp only at e4 e
    split at e
    · rename_i hl
      obtain ⟨env3, e6, e⟩ := bnd e
      cases e
      refine h B O I σ H env rs env1 S e1 _ fun vs H1 S1 P1 => ?_
      have hbo := lent_own (bs := io) e2
      obtain ⟨g1, g2, g3⟩ := args_ok S1 (bor := bor) (k := 0) P1 e2 (fun _ y => y) hdis hbo
      have g2' : ioA io vs = addrs σ ios := g2
      rw [List.append_nil]
      refine ⟨_, ds, r, fr, outs, g1, by rw [g2']; exact addrs_nodup S1 hn g3, fun p hp => S1.dom p (List.mem_filter.mp hp).1, fun p xs hp => S1.nt p xs (List.mem_filter.mp hp).1, e3, fun v H' R => ?_⟩
      rw [g2'] at R
      have hbo2 : ∀ i, i ∈ bor → ∃ ds, OwnAt env2 i ds := fun i y => by
        obtain ⟨ds, y1⟩ := hbo i y
        exact putOuts_own e4 y1
      cases fr with
      | false =>
        obtain ⟨o1, o2⟩ := R.old rfl
        obtain ⟨S2, l1, l2⟩ := called S1 hn g3 hdis hbo R.frame o1 hl e4
        have ez : rv = RV.val r := by
          unfold resR at e5
          cases r <;> cases e5 <;> rfl
        subst ez
        obtain ⟨s3, S3⟩ := S2.shrink hbo2 e6
        exact q _ _ _ s3 ⟨S3, o2⟩
      | true =>
        by_cases tp : isTp r = true
        · obtain ⟨p, qs, dss, rfl, rfl, hp', hnd, hfr, hls, o1⟩ := R.tw rfl tp
          have fr2 : ∀ a o, H1 a = some o → a ∉ addrs σ ios → mi H' qs a = some o := fun a o y1 y2 => mi_of (fun y => by
            rw [hfr a y] at y1
            cases y1) (R.frame a o y1 y2)
          obtain ⟨S2, l1, l2⟩ := called S1 hn g3 hdis hbo fr2 o1 hl e4
          have ez := resR_tw e5
          subst ez
          obtain ⟨s3, S3⟩ := S2.shrink hbo2 e6
          exact q _ _ _ s3 ⟨p, qs, rfl, hp', hnd, fun a ha => ⟨S1.base.free (hfr a ha), fun y => not_dom S1.dom (hfr a ha) (List.mem_filter.mp y).1⟩, S3, hls⟩
        obtain ⟨p, xs, rs', rfl, rfl, hp, hp', hx, o1⟩ := R.new rfl (Bool.eq_false_iff.mpr tp)
        have fr2 : ∀ a o, H1 a = some o → a ∉ addrs σ ios → mi H' [p] a = some o := fun a o y1 y2 => mi_of (fun y => by
          rw [List.mem_singleton] at y
          subst y
          rw [hp] at y1
          cases y1) (R.frame a o y1 y2)
        obtain ⟨S2, l1, l2⟩ := called S1 hn g3 hdis hbo fr2 o1 hl e4
        cases e5
        obtain ⟨s3, S3⟩ := S2.shrink hbo2 e6
        exact q _ _ _ s3 ⟨p, xs, rfl, hp', S1.base.free hp, fun y => not_dom S1.dom hp (List.mem_filter.mp y).1, S3, hx⟩
    · cases e
  · cases e
theorem ss_retM (h1 : SndM K te fe) : SndS K W (tRet te) (fRet fe) := by
  intro B O I σ H env o S e D k
  obtain ⟨⟨r1, env1⟩, e1, e⟩ := bnd e
  cases e
  exact h1 B O I σ H env r1 env1 S e1 _ fun O' v H1 s P1 => k.rt s P1
theorem ss_asgM {g : TG} {h : GF} (h1 : SndM K te fe) (h2 : SndG K g h) : SndS K W (tAsg te g) (fAsg fe h) := by
  intro B O I σ H env o S e D k
  obtain ⟨⟨r1, env1⟩, e1, e⟩ := bnd e
  dsimp only at e
  split at e
  · rename_i d hd
    obtain ⟨env2, e2, e⟩ := bnd e
    cases e
    refine h1 B O I σ H env r1 env1 S e1 _ fun O' v H1 s P1 => ?_
    have P1' := P1.frz
    rw [hd] at P1'
    exact h2 B O' I σ H1 env1 v d env2 P1'.1 P1'.2 e2 _ fun σ2 S2 => k O' σ2 H1 s S2
  · cases e
theorem ss_ownM {i : Nat} (h1 : SndM K te fe) : SndS K W (tAsg te (gName i)) (fOwn i fe) := by
  intro B O I σ H env o S e D k
  obtain ⟨⟨r1, env1⟩, e1, e⟩ := bnd e
  dsimp only at e
  split at e
  · obtain ⟨env2, e2, e⟩ := bnd e
    cases e
    refine h1 B O I σ H env _ env1 S e1 _ fun O' v H1 s P1 => ?_
    obtain ⟨O2, s2, S2⟩ := Sta.owned P1 e2
    exact k O2 _ H1 (s.trans s2) S2
  · cases e
/-- a name that is given away -/
def fMv (i : Nat) : EF := fun env => match env[i]? with
  | some (.o1 ds) => (dropAll [i] env).bind fun e => some (.val (.lst ds), e)
  | _ => none
theorem sndM_mv {i : Nat} : SndM K (tVar i) (fMv i) := by
  intro B O I σ H env rv env' S e Q q
  unfold fMv at e
  split at e
  · rename_i ds hds
    obtain ⟨env2, e2, e⟩ := bnd e
    cases e
    obtain ⟨p, xs, s1, s2, s3, s4, s5⟩ := S.ow i ds (.inl hds)
    obtain ⟨sb, S2⟩ := S.shrink (bor := [i]) (fun j hj => by rw [List.mem_singleton.mp hj]; exact ⟨ds, .inl hds⟩) e2
    have sub : ∀ a, a ∈ O.filter (fun a => decide (a ∉ addrs σ [i])) → a ∈ O := fun a z => (List.mem_filter.mp z).1
    refine ⟨_, s1, q _ _ _ sb ⟨S2, .lst (mi_of (fun z => ?_) s3) (DqA.mono (mi_sub sub) _ _ s4)⟩⟩
    exact of_decide_eq_true (List.mem_filter.mp z).2 (mem_addrs List.mem_cons_self s1)
  · cases e
end
end Dv

namespace Dv
open PySem L2 PyProof.Rows

/-! ### the operators, as the printer names them: o_X (the model's side), q_X (the plain side) -/
def mulB (i j : Int) : Bool := decide (i.natAbs.log2 + j.natAbs.log2 ≤ 134000000)
def divB (_ j : Int) : Bool := decide (j ≠ 0) && decide (j.natAbs.log2 < 9000)
def modB (_ j : Int) : Bool := decide (j ≠ 0)
def powB (i j : Int) : Bool := decide (0 ≤ j) && decide (((i.natAbs.log2 + 1 : Nat) : Int) * j ≤ 134217728)
theorem bits_le (x : Int) : Builtin.Int.intBits x ≤ x.natAbs.log2 + 1 := by
  unfold Builtin.Int.intBits
  split <;> omega
theorem mulB_ok {i j : Int} (h : mulB i j = true) : IntMulOk i j := by
  have h1 := bits_le i
  have h2 := bits_le j
  have h3 : i.natAbs.log2 + j.natAbs.log2 ≤ 134000000 := of_decide_eq_true h
  have e : bitsLine = 134217728 := by decide
  unfold IntMulOk
  intro z
  rw [Bool.and_eq_true] at z
  have z2 := z.2
  unfold Builtin.Int.intTooBig at z2
  have z3 := of_decide_eq_true z2
  rw [e] at z3
  omega
theorem powB_ok {i j : Int} (h : powB i j = true) : 0 ≤ j ∧ (Builtin.Int.intBits i : Int) * j ≤ 2 ^ 27 := by
  unfold powB at h
  rw [Bool.and_eq_true] at h
  have h1 := of_decide_eq_true h.1
  have h2 := of_decide_eq_true h.2
  refine ⟨h1, Int.le_trans (Int.mul_le_mul_of_nonneg_right ?_ h1) h2⟩
  exact Int.ofNat_le.mpr (bits_le i)
section
variable {X : Cx} {K : PySem.W.Frag}
def rMulI : R2 := rI IntMulOk fun i j => .int (i * j)
theorem opMulI : OpR X (binaryOp .Mult) rMulI := opI fun _ _ _ _ _ _ _ hc q => mul_int q hc
def rMulX : R2 := fun x y H Q => rMulI x y H Q ∨ rRep x y H Q
theorem o_mul : OpR X (binaryOp .Mult) rMulX := OpR.or opMulI op_rep
def gMul : G2 := fun d e => (gI mulB (fun i j => i * j) d e).or (gRep d e)
theorem q_mul : Op2 K rMulX gMul := Op2.or (op2_I fun _ _ h => mulB_ok h) op2_rep
/-- + : ints, lists, texts -/
def rCatS : R2 := fun x y H Q => ∃ i j, x = .str i ∧ y = .str j ∧ i.length + j.length ≤ sizeLine ∧ Q (.str (i ++ j)) H
def gCatS : G2
  | .str x, .str y => if x.length + y.length ≤ 10000000 then some (.val (.str (x ++ y))) else none
  | _, _ => none
theorem op2_catS : Op2 K rCatS gCatS := by
  intro B O I σ H env x y ra rb d e z P1 P2 e1 e2 ez Q q
  have d1 := P1.read e1
  have d2 := P2.read e2
  unfold gCatS at ez
  split at ez
  · cases d1
    cases d2
    split at ez
    · cases ez
      exact ⟨_, _, rfl, rfl, line_of (by assumption), q _ H ⟨P1.sta, .str _⟩⟩
    · cases ez
  · cases ez
def rAddI : R2 := rI0 fun i j => .int (i + j)
def rPlus : R2 := fun x y H Q => rAddI x y H Q ∨ (rCat x y H Q ∨ rCatS x y H Q)
theorem o_add : OpR X (binaryOp .Add) rPlus := OpR.or op_add (OpR.or op_cat op_add_str)
def gAdd : G2 := fun d e => (gI0 (fun i j => i + j) d e).or ((gCat d e).or (gCatS d e))
theorem q_add : Op2 K rPlus gAdd := Op2.or op2_I0 (Op2.or op2_cat op2_catS)
def gSub : G2 := gI0 fun i j => i - j
theorem o_sub : OpR X (binaryOp .Sub) (rI0 fun i j => .int (i - j)) := op_sub
theorem q_sub : Op2 K (rI0 fun i j => .int (i - j)) gSub := op2_I0
def rDivX : R2 := rI (fun _ j => j ≠ 0 ∧ j.natAbs.log2 < 9000) fun i j => .int (i.fdiv j)
theorem o_div : OpR X (binaryOp .FloorDiv) rDivX := opI fun _ _ _ _ _ _ _ hc q => floordiv_int hc.1 q (.inl (PyProof.noPylong_of_log2 hc.2))
def gDiv : G2 := gI divB fun i j => i.fdiv j
theorem q_div : Op2 K rDivX gDiv := op2_I fun i j h => by
  unfold divB at h
  rw [Bool.and_eq_true] at h
  exact ⟨of_decide_eq_true h.1, of_decide_eq_true h.2⟩
def gMod : G2 := gI modB fun i j => i.fmod j
theorem o_mod : OpR X (binaryOp .Mod) (rI (fun _ j => j ≠ 0) fun i j => .int (i.fmod j)) := op_modN
theorem q_mod : Op2 K (rI (fun _ j => j ≠ 0) fun i j => .int (i.fmod j)) gMod := op2_I fun i j h => of_decide_eq_true h
def rPowX : R2 := rI (fun i j => 0 ≤ j ∧ (Builtin.Int.intBits i : Int) * j ≤ 2 ^ 27) fun i j => .int (i ^ j.toNat)
theorem o_pow : OpR X (binaryOp .Pow) rPowX := opI fun _ _ _ _ _ _ _ hc q => pow_int hc.1 hc.2 q
def gPow : G2 := gI powB fun i j => i ^ j.toNat
theorem q_pow : Op2 K rPowX gPow := op2_I fun i j h => powB_ok h
/-- comparisons -/
def gLt : G2 := gIB fun i j => decide (i < j)
def gLe : G2 := gIB fun i j => decide (i ≤ j)
def gGt : G2 := gIB fun i j => decide (j < i)
def gGe : G2 := gIB fun i j => decide (j ≤ i)
theorem q_lt : Op2 K (rI0 fun i j => .bl (decide (i < j))) gLt := op2_IB
theorem q_le : Op2 K (rI0 fun i j => .bl (decide (i ≤ j))) gLe := op2_IB
theorem q_gt : Op2 K (rI0 fun i j => .bl (decide (j < i))) gGt := op2_IB
theorem q_ge : Op2 K (rI0 fun i j => .bl (decide (j ≤ i))) gGe := op2_IB
end
/-! is, is not: truths, None -/
section
variable {X : Cx} {K : PySem.W.Frag}
def rIsBl : R2 := fun x y H Q => ∃ a b, x = .bl a ∧ y = .bl b ∧ Q (.bl (decide (a = b))) H
def rIsNo : R2 := fun x y H Q => y = .non ∧ Q (.bl (decide (x = .non))) H
def rNotBl : R2 := fun x y H Q => ∃ a b, x = .bl a ∧ y = .bl b ∧ Q (.bl (!decide (a = b))) H
def rNotNo : R2 := fun x y H Q => y = .non ∧ Q (.bl (!decide (x = .non))) H
def isNon : D → Bool
  | .non => true
  | _ => false
def gIsBl : G2
  | .bl a, .bl b => some (.val (.bl (decide (a = b))))
  | _, _ => none
def gIsNo : G2 := fun d e => match e with
  | .non => some (.val (.bl (isNon d)))
  | _ => none
def gNotBl : G2
  | .bl a, .bl b => some (.val (.bl (!decide (a = b))))
  | _, _ => none
def gNotNo : G2 := fun d e => match e with
  | .non => some (.val (.bl (!isNon d)))
  | _ => none
theorem isNon_v {H : Hp} {v : V} {d : D} (h : Dq K H v d) : decide (v = .non) = isNon d := by
  cases h <;> rfl
theorem q_isBl : Op2 K rIsBl gIsBl := by
  intro B O I σ H env x y ra rb d e z P1 P2 e1 e2 ez Q q
  have d1 := P1.read e1
  have d2 := P2.read e2
  unfold gIsBl at ez
  split at ez
  · cases d1
    cases d2
    cases ez
    exact ⟨_, _, rfl, rfl, q _ H ⟨P1.sta, .bl _⟩⟩
  · cases ez
theorem q_notBl : Op2 K rNotBl gNotBl := by
  intro B O I σ H env x y ra rb d e z P1 P2 e1 e2 ez Q q
  have d1 := P1.read e1
  have d2 := P2.read e2
  unfold gNotBl at ez
  split at ez
  · cases d1
    cases d2
    cases ez
    exact ⟨_, _, rfl, rfl, q _ H ⟨P1.sta, .bl _⟩⟩
  · cases ez
theorem q_isNo : Op2 K rIsNo gIsNo := by
  intro B O I σ H env x y ra rb d e z P1 P2 e1 e2 ez Q q
  have d1 := P1.read e1
  have d2 := P2.read e2
  unfold gIsNo at ez
  split at ez
  · cases d2
    cases ez
    exact ⟨rfl, by rw [isNon_v d1]; exact q _ H ⟨P1.sta, .bl _⟩⟩
  · cases ez
theorem q_notNo : Op2 K rNotNo gNotNo := by
  intro B O I σ H env x y ra rb d e z P1 P2 e1 e2 ez Q q
  have d1 := P1.read e1
  have d2 := P2.read e2
  unfold gNotNo at ez
  split at ez
  · cases d2
    cases ez
    exact ⟨rfl, by rw [isNon_v d1]; exact q _ H ⟨P1.sta, .bl _⟩⟩
  · cases ez
def rIs : R2 := fun x y H Q => rIsBl x y H Q ∨ rIsNo x y H Q
def rIsnt : R2 := fun x y H Q => rNotBl x y H Q ∨ rNotNo x y H Q
theorem o_is : OpR X (compareOp .Is) rIs := OpR.or op_is_bl op_isN
theorem o_isnt : OpR X (compareOp .IsNot) rIsnt := OpR.or op_isnot_bl op_notN
def gIs : G2 := fun d e => (gIsBl d e).or (gIsNo d e)
def gIsnt : G2 := fun d e => (gNotBl d e).or (gNotNo d e)
theorem q_is : Op2 K rIs gIs := Op2.or q_isBl q_isNo
theorem q_isnt : Op2 K rIsnt gIsnt := Op2.or q_notBl q_notNo
end
/-- turns enough for most loops -/
def sizeS : SV → Nat
  | .fz (.int i) => i.natAbs
  | .fz (.lst ds) => ds.length
  | .o1 ds => ds.length
  | .io ds => ds.length
  | _ => 0
def fuelE (env : Env) : Nat := (env.map sizeS).sum + 1
/-- a place where ways meet -/
def fCut (g : SFn) : SFn := g
theorem ss_cut {K : PySem.W.Frag} {W : WN} {t : TS} {g : SFn} (h : SndS K W t g) : SndS K W t (fCut g) := h
/-- what is never reached -/
def fNever : SFn := fun _ => none
theorem ss_never {K : PySem.W.Frag} {W : WN} : SndS K W tNever fNever := fun _ _ _ _ _ _ _ _ e => nomatch e
theorem mi_nil {H : Hp} : mi H [] = H := by
  funext a
  exact mi_out (by simp)
/-- a law that gives True at every script keeps its promise -/
theorem law_sp {K : PySem.W.Frag} {g : FF} {H : Hp} {a : Addr} {ns : List Int} {E : XK} (hg : g [.scr ns] = some (.bl true, false, [])) (hS : SqL K H a (ns.map V.int)) : spD K [false] g [.ref a] H (fun v _ => v = .bl true) E := by
  refine ⟨[], [.scr ns], .bl true, false, [], .val (.scr (by rw [mi_nil]; exact hS)) .nil, List.nodup_nil, (fun p h => nomatch h), (fun p xs h => nomatch h), hg, fun v H' R => ?_⟩
  have d := (R.old rfl).2
  cases d
  rfl
/-- a written tuple of two ints -/
theorem dq_pair {K : PySem.W.Frag} {a : Addr} {od : Option Addr} {n : Nat} {sl : Array (Option Value)} {i j : Int} {t u : Tok} (h : K.lookup a = some ⟨.type "tuple", od, .seq #[.int i t, .int j u] n, sl⟩) (G : Hp) : Dq K G (.ref a) (.tup [.int i, .int j]) :=
  .tup (xs := [.int i, .int j]) (.inr ⟨_, _, _, h, rfl, rfl, by show 2 ≤ sizeLine; decide, .cons ⟨t, rfl⟩ (.cons ⟨u, rfl⟩ .nil)⟩) (.cons (.int i) (.cons (.int j) .nil))
/-- nothing is refused -/
def W0 : WN := fun _ _ _ => False
/-- a def of the text keeps its promise, by its body -/
theorem ok_def {P : Program} {w : World} {K : PySem.W.Frag} {mg : Str → Option Value} {base : Heap} {x qual : Str} {st : Stmt} {f : Addr} {fd : FuncData} {N ps : List Str} {k : Nat} {io : List Bool} {b : SFn} (F : Fun K x qual st f fd) (S : FnScope N ps (defScope st)) (hl : io.length = ps.length)
    (hb : ∀ (cdv : Value) (A : Around) (outer : List PySem.Env) (s : Shared) (H : Hp) (E : XK), Room k (A.deeper (envOfC qual (defScope st) s.heap.objs.size f cdv)) →
      ∃ t, PSs (cxOf CX0 P w K mg base N qual (defScope st) f cdv A outer s H E).nox (defBody st) t ∧ SndS K W0 t b) : FnOk P w K mg base CX0 (k + 1) f fd ps (spD K io (fDef (N.length - io.length) io b)) := by
  refine F.ok S (fun vs H Q E h => ?_) (fun cdv A outer s H vs Q E hr h => ?_)
  · obtain ⟨O, ds, r, fr, outs, ha, _⟩ := h
    rw [ha.len, hl]
  · obtain ⟨t, h1, h2⟩ := hb cdv A outer s H E hr
    exact ⟨t, h1, body_ok h2 rfl h⟩
end Dv

namespace Dv
open PySem L2 PyProof.Rows

/-! ### defs that may refuse -/
abbrev FX := List D → Option (Except Nat (D × Bool × List (List D)))
def finF (io : List Bool) (o : Out) : Option (D × Bool × List (List D)) := match o with
  | .nx env => (outE env (ioIx 0 io)).bind fun outs => some (.non, false, outs)
  | .rt (.val d) env => (outE env (ioIx 0 io)).bind fun outs => some (d, false, outs)
  | .rt (.new es) env => (outE env (ioIx 0 io)).bind fun outs => some (.lst es, true, outs)
  | .rt (.tw dss) env => (outE env (ioIx 0 io)).bind fun outs => some (.tup (dss.map D.lst), true, outs)
  | .rt (.slot i) env => match env[i]? with
    | some (.o1 es) => (outE env (ioIx 0 io)).bind fun outs => some (.lst es, true, outs)
    | _ => none
  | _ => none
def finX (io : List Bool) (o : Out) : Option (Except Nat (D × Bool × List (List D))) := match o with
  | .rt (.ex n) _ => some (.error n)
  | o => (finF io o).bind fun r => some (.ok r)
def fDefX (m : Nat) (io : List Bool) (b : SFn) : FX := fun ds => (argS io ds).bind fun e => (b (e ++ List.replicate m .no)).bind fun o => finX io o
theorem fDef_fin {m : Nat} {io : List Bool} {b : SFn} {ds : List D} : fDef m io b ds = (argS io ds).bind fun e => (b (e ++ List.replicate m .no)).bind fun o => finF io o := by
  unfold fDef finF
  rfl
theorem fDef_of {m : Nat} {io : List Bool} {b : SFn} {ds : List D} {r : D × Bool × List (List D)} (h : fDefX m io b ds = some (.ok r)) : fDef m io b ds = some r := by
  rw [fDef_fin]
  obtain ⟨e, h1, h⟩ := bnd h
  obtain ⟨o, h2, h⟩ := bnd h
  rw [h1, Option.bind_some, h2, Option.bind_some]
  unfold finX at h
  split at h
  · cases h
  · obtain ⟨r', h3, h⟩ := bnd h
    cases h
    exact h3
theorem fDefX_of {m : Nat} {io : List Bool} {b : SFn} {ds : List D} {r : D × Bool × List (List D)} (h : fDef m io b ds = some r) : fDefX m io b ds = some (.ok r) := by
  rw [fDef_fin] at h
  obtain ⟨e, h1, h⟩ := bnd h
  obtain ⟨o, h2, h⟩ := bnd h
  unfold fDefX
  rw [h1, Option.bind_some, h2, Option.bind_some]
  unfold finX
  split
  · cases h
  · rw [h]
    rfl
theorem fDefX_ex {m : Nat} {io : List Bool} {b : SFn} {ds : List D} {n : Nat} (h : fDefX m io b ds = some (.error n)) : ∃ e env, argS io ds = some e ∧ b (e ++ List.replicate m .no) = some (.rt (.ex n) env) := by
  obtain ⟨e, h1, h⟩ := bnd h
  obtain ⟨o, h2, h⟩ := bnd h
  unfold finX at h
  split at h
  · cases h
    exact ⟨e, _, h1, h2⟩
  · obtain ⟨r', h3, h⟩ := bnd h
    cases h
abbrev noIo (io : List Bool) : Prop := io.all (fun b => !b) = true
theorem pins_no : ∀ {io : List Bool} {vs : List V} {k : Nat}, noIo io → pinsOf k io vs = []
  | [], vs, k, _ => by cases vs <;> rfl
  | true :: io, vs, k, h => by cases h
  | false :: io, [], k, h => rfl
  | false :: io, v :: vs, k, h => by
    have : pinsOf k (false :: io) (v :: vs) = pinsOf (k + 1) io vs := by cases v <;> rfl
    rw [this]
    exact pins_no (by simpa [noIo] using h)
theorem ioA_no {io : List Bool} {vs : List V} (h : noIo io) : ioA io vs = [] := by
  unfold ioA
  rw [pins_no h]
  rfl
abbrev cfx (cl : Nat → Addr) (E : XK) (n : Nat) (H : Hp) : Prop := E (.ref (cl n)) none H
def spX (K : PySem.W.Frag) (cl : Nat → Addr) (io : List Bool) (g : FX) : Sp := fun vs H Q E => ∃ O ds r, noIo io ∧ ArgsOk K O H io vs ds ∧ (∀ p, p ∈ O → ∃ o, H p = some o) ∧ (∀ p xs, p ∈ O → H p ≠ some (.tup xs)) ∧ g ds = some r ∧
  (∀ d fr outs, r = .ok (d, fr, outs) → ∀ v H', ResOk K O H [] v H' d fr outs → Q v H') ∧ ∀ n, r = .error n → ∀ H', (∀ a o, H a = some o → H' a = some o) → cfx cl E n H'
/-- the wish about refusals, by numbers -/
def wn (cl : Nat → Addr) (WX : L2.WX) : WN := fun n σ H => WX (.ref (cl n)) none σ H
section
variable {K : PySem.W.Frag} {B : Hp} {O : List Addr} {I : List (Nat × Addr)} {σ : L2.St} {H H' : Hp} {env env' : Env} {v : V} {t ta tb te : TE} {f fa fb fe : EF} {W : WN} {cl : Nat → Addr}
theorem body_okX {N : List Str} {bs : List Bool} {m : Nat} {b : SFn} {t : TS} {vs : List V} {Q : VK} {E : XK} (hb : SndS K (wn cl fun c d _ H => E c d H) t b) (hm : m = N.length - bs.length) (h : spX K cl bs (fDefX m bs b) vs H Q E) : t { nx := fun _ H' => Q .non H', rt := Q } (L2.start N vs) H := by
  obtain ⟨O, ds, r, hio, ha, hd, ht, eg, q1, q2⟩ := h
  have ei : ioA bs vs = [] := ioA_no hio
  cases r with
  | ok r =>
    obtain ⟨d, fr, outs⟩ := r
    refine body_ok (E := E) hb hm ⟨O, ds, d, fr, outs, ha, by rw [ei]; exact List.nodup_nil, hd, ht, fDef_of eg, fun v H' R => ?_⟩
    rw [ei] at R
    exact q1 d fr outs rfl v H' R
  | error n =>
    obtain ⟨e, env, e1, e2⟩ := fDefX_ex eg
    have S := entry (N := N) (m := m) ha (by rw [ei]; exact List.nodup_nil) hd ht e1 (by rw [ha.len]; exact hm)
    refine hb _ O _ _ H _ _ S e2 _ ?_
    intro O' σ' H' s S'
    refine q2 n rfl H' fun a o z => S'.base a o ?_
    rw [ei]
    exact mi_of (by simp) z
/-! expressions that may refuse -/
def SndX (K : PySem.W.Frag) (W : WN) (t : TE) (f : EF) : Prop := ∀ B O I σ H env rv env', Sta K B O I σ H env → f env = some (rv, env') →
  ∀ Q : VK, (∀ v H', Post K B O I σ H' env' v rv → Q v H') → (∀ n, rv = .ex n → ∀ H', Sta K B O I σ H' env' → W n σ H') → t σ H Q
def fCallX (io : List Bool) (g : FX) (fa : AF) : EF := fun env => (fa env).bind fun a => (argD a.2 io a.1).bind fun x => if x.2.1.isEmpty && io.all (fun b => !b) then (g x.1).bind fun r => match r with
  | .error n => some (.ex n, a.2)
  | .ok r => if r.2.2.isEmpty then (resR r).bind fun z => if lentOk x.2.2 z then some (z, a.2) else none else none
  else none
theorem sndX_call {io : List Bool} {g : FX} {WX : L2.WX} {t : TA} {fa : AF} (h : SndA K t fa) : SndX K (wn cl WX) (tCallS (spX K cl io g) (WE WX) t) (fCallX io g fa) := by
  intro B O I σ H env rv env' S e Q q qx
  obtain ⟨⟨rs, env1⟩, e1, e⟩ := bnd e
  obtain ⟨⟨ds, ios, bor⟩, e2, e⟩ := bnd e
  dsimp only at e2 e
  split at e
  · rename_i hc
    rw [Bool.and_eq_true] at hc
    have hios : ios = [] := List.isEmpty_iff.mp hc.1
    subst hios
    have hio : noIo io := hc.2
    obtain ⟨r, e3, e⟩ := bnd e
    refine h B O I σ H env rs env1 S e1 _ fun vs H1 S1 P1 => ?_
    have hbo := lent_own (bs := io) e2
    obtain ⟨g1, g2, g3⟩ := args_ok S1 (bor := bor) (k := 0) P1 e2 (fun _ y => y) (fun _ y => nomatch y) hbo
    refine ⟨_, ds, r, hio, g1, fun p hp => S1.dom p (List.mem_filter.mp hp).1, fun p xs hp => S1.nt p xs (List.mem_filter.mp hp).1, e3, fun d fr outs er v H' R => ?_, fun n er H' fr => ?_⟩
    · subst er
      dsimp only at e
      split at e
      · rename_i ho
        have ho : outs = [] := List.isEmpty_iff.mp ho
        subst ho
        obtain ⟨z, e5, e⟩ := bnd e
        split at e
        · rename_i hl
          cases e
          cases fr with
          | false =>
            obtain ⟨o1, o2⟩ := R.old rfl
            obtain ⟨S2, l1, l2⟩ := called (ios := []) (bor := bor) (outs := []) S1 List.nodup_nil (fun _ y => nomatch y) (fun _ y => nomatch y) hbo R.frame trivial rfl rfl
            have ez : rv = RV.val d := by
              unfold resR at e5
              cases d <;> cases e5 <;> rfl
            subst ez
            exact q _ _ ⟨S2, l1 _ _ hl o2⟩
          | true =>
            by_cases tp : isTp d = true
            · obtain ⟨p, qs, dss, rfl, rfl, hp', hnd, hfr, hls, o1⟩ := R.tw rfl tp
              have fr2 : ∀ a o, H1 a = some o → a ∉ addrs σ [] → mi H' qs a = some o := fun a o y1 y2 => mi_of (fun y => by
                rw [hfr a y] at y1
                cases y1) (R.frame a o y1 y2)
              obtain ⟨S2, l1, l2⟩ := called (ios := []) (bor := bor) (outs := []) S1 List.nodup_nil (fun _ y => nomatch y) (fun _ y => nomatch y) hbo fr2 trivial rfl rfl
              have ez := resR_tw e5
              subst ez
              have be : bor = [] := List.isEmpty_iff.mp hl
              subst be
              have eO : (O.filter fun a => decide (a ∉ addrs σ [])) = O := List.filter_eq_self.mpr fun a _ => decide_eq_true fun y => by cases y
              rw [eO] at hls
              exact q _ _ ⟨p, qs, rfl, hp', hnd, fun a ha => ⟨S1.base.free (hfr a ha), not_dom S1.dom (hfr a ha)⟩, S2, hls⟩
            obtain ⟨p, xs, rs', rfl, rfl, hp, hp', hx, o1⟩ := R.new rfl (Bool.eq_false_iff.mpr tp)
            have fr2 : ∀ a o, H1 a = some o → a ∉ addrs σ [] → mi H' [p] a = some o := fun a o y1 y2 => mi_of (fun y => by
              rw [List.mem_singleton] at y
              subst y
              rw [hp] at y1
              cases y1) (R.frame a o y1 y2)
            obtain ⟨S2, l1, l2⟩ := called (ios := []) (bor := bor) (outs := []) S1 List.nodup_nil (fun _ y => nomatch y) (fun _ y => nomatch y) hbo fr2 trivial rfl rfl
            cases e5
            exact q _ _ ⟨p, xs, rfl, hp', S1.base.free hp, not_dom S1.dom hp, S2, l2 _ _ hl hx⟩
        · cases e
      · cases e
    · subst er
      cases e
      exact qx n rfl H' (S1.grow fun a o z => fr a o z)
  · cases e
theorem SndX.of (h : Snd K t f) (hx : ∀ env n e, f env ≠ some (.ex n, e)) : SndX K W t f := fun B O I σ H env rv env' S e Q q _ => h B O I σ H env rv env' S e Q q
theorem ss_retX (h1 : SndX K W te fe) : SndS K W (tRet te) (fRet fe) := by
  intro B O I σ H env o S e D k
  obtain ⟨⟨r1, env1⟩, e1, e⟩ := bnd e
  cases e
  refine h1 B O I σ H env r1 env1 S e1 _ (fun v H1 P1 => k.rt .refl P1) fun n en H1 S1 => ?_
  subst en
  exact k O σ H1 .refl S1
def fDropX (f : EF) : SFn := fun env => (f env).bind fun a => match a.1 with
  | .ex n => some (.rt (.ex n) a.2)
  | _ => some (.nx a.2)
theorem ss_dropX (h1 : SndX K W te fe) : SndS K W (tDrop te) (fDropX fe) := by
  intro B O I σ H env o S e D k
  obtain ⟨⟨r1, env1⟩, e1, e⟩ := bnd e
  refine h1 B O I σ H env r1 env1 S e1 _ (fun v H1 P1 => ?_) fun n en H1 S1 => ?_
  · dsimp only at e
    split at e
    · exact False.elim P1
    · cases e
      exact k O σ H1 .refl P1.sta
  · subst en
    cases e
    exact k O σ H1 .refl S1
def fAsgX (f : EF) (g : GF) : SFn := fun env => (f env).bind fun a => match a.1 with
  | .ex n => some (.rt (.ex n) a.2)
  | .val d => (g d a.2).bind fun e => some (.nx e)
  | .new ds => (g (.lst ds) a.2).bind fun e => some (.nx e)
  | _ => none
theorem ss_asgX {g : TG} {h : GF} (h1 : SndX K W te fe) (h2 : SndG K g h) : SndS K W (tAsg te g) (fAsgX fe h) := by
  intro B O I σ H env o S e D k
  obtain ⟨⟨r1, env1⟩, e1, e⟩ := bnd e
  refine h1 B O I σ H env r1 env1 S e1 _ (fun v H1 P1 => ?_) fun n en H1 S1 => ?_
  · dsimp only at e
    split at e
    · exact False.elim P1
    · obtain ⟨env2, e2, e⟩ := bnd e
      cases e
      exact h2 B O I σ H1 env1 v _ env2 P1.1 P1.2 e2 _ fun σ2 S2 => k O σ2 H1 .refl S2
    · obtain ⟨env2, e2, e⟩ := bnd e
      cases e
      have P1' := P1.frz
      exact h2 B O I σ H1 env1 v _ env2 P1'.1 P1'.2 e2 _ fun σ2 S2 => k O σ2 H1 .refl S2
    · cases e
  · subst en
    cases e
    exact k O σ H1 .refl S1
/-! raise -/
def tRaise (C : Addr) (WX : L2.WX) : TS := fun _ σ H => WX (.ref C) none σ H
def fRaise (n : Nat) : SFn := fun env => some (.rt (.ex n) env)
theorem ss_raise {n : Nat} {WX : L2.WX} : SndS K (wn cl WX) (tRaise (cl n) WX) (fRaise n) := by
  intro B O I σ H env o S e D k
  cases e
  exact k O σ H .refl S
/-! expressions at given slots -/
def SndAt (K : PySem.W.Frag) (σ : L2.St) (t : TE) (f : EF) : Prop := ∀ B O I H env rv env', Sta K B O I σ H env → f env = some (rv, env') →
  ∀ Q : VK, (∀ v H', Post K B O I σ H' env' v rv → Q v H') → t σ H Q
theorem Snd.at (h : Snd K t f) : SndAt K σ t f := fun B O I H env rv env' => h B O I σ H env rv env'
theorem sndAt_2 {r : R2} {g : G2} (h1 : SndAt K σ ta fa) (h2 : SndAt K σ tb fb) (ho : Op2 K r g) : SndAt K σ (tOp r ta tb) (f2 g fa fb) := by
  intro B O I H env rv env' S e Q q
  obtain ⟨⟨r1, env1⟩, e1, e⟩ := bnd e
  obtain ⟨⟨r2, env2⟩, e2, e⟩ := bnd e
  obtain ⟨x, ex, e⟩ := bnd e
  obtain ⟨y, ey, e⟩ := bnd e
  obtain ⟨z, ez, e⟩ := bnd e
  cases e
  refine h1 B O I H env r1 env1 S e1 _ fun v H1 P1 => ?_
  have P1' := P1.frz
  have S1 := P1'.sta
  refine h2 _ O I H1 env1 r2 env2 S1.strong e2 _ fun w H2 P2 => ?_
  exact ho B O I σ H2 env2 v w _ r2 x y _ (P1'.later P2.sta) (P2.weakN S1.base_keep) ex ey ez Q q
/-- the word of a refusal that the i-th name holds -/
def tKd (i : Nat) (a : Addr) (w : V) : TE := fun σ H Q => σ[i]? = some (some (.ref a)) ∧ ∀ H', Same H H' → Q w H'
theorem sndAt_kd {i : Nat} {a : Addr} {w : V} {d : D} (hd : ∀ G, Dq K G w d) (h : σ[i]? = some (some (.ref a))) : SndAt K σ (tKd i a w) (fC d) := by
  intro B O I H env rv env' S e Q q
  cases e
  exact ⟨h, fun H' s => q w H' ⟨S.grow s, hd _⟩⟩
/-! try .. except X as e: return .. -/
def fTry (i : Nat) (ks : List Nat) (g : SFn) (h : Nat → EF) : SFn := fun env => (g env).bind fun o => match o with
  | .rt (.ex n) e => if n ∈ ks then (putS i .no e).bind fun e1 => (h n e1).bind fun a => match a.1 with
      | .ex _ => none
      | r => some (.rt r a.2)
    else none
  | o => some o
theorem ss_try {c : Value} {i : Nat} {ks : List Nat} {tb : L2.WX → TS} {ts : Addr → Value → Option Addr → TS} {tx : Addr → Nat → TE} {Wout : L2.WX} {g : SFn} {h : Nat → EF}
    (hb : ∀ WX : L2.WX, SndS K (wn cl WX) (tb WX) g) (hin : ∀ n, n ∈ ks → PySem.W.exmOne K (.ref (cl n)) c = some true)
    (hts : ∀ n, n ∈ ks → ∀ (a : Addr) (D : Ends) (σ : L2.St) (H : Hp), tRet (tx a n) D σ H → ts a (.ref (cl n)) none D σ H) (htx : ∀ n, n ∈ ks → ∀ (a : Addr) (σ : L2.St), σ[i]? = some (some (.ref a)) → SndAt K σ (tx a n) (h n)) :
    SndS K W (fun D σ H => tb (wAs K c i ts Wout D) D σ H) (fTry i ks g h) := by
  intro B O I σ H env o S e D k
  obtain ⟨o1, e1, e⟩ := bnd e
  refine hb (wAs K c i ts Wout D) B O I σ H env o1 S e1 D ?_
  cases o1 with
  | nx e2 => cases e; exact k
  | bk e2 => cases e; exact k
  | ct e2 => cases e; exact k
  | rt r e2 =>
    cases r with
    | val d => cases e; exact k
    | slot j => cases e; exact k
    | new ds => cases e; exact k
    | tw ds => cases e; exact k
    | ex n =>
      dsimp only at e
      split at e
      · rename_i hn
        obtain ⟨e3, e4, e⟩ := bnd e
        obtain ⟨⟨r5, e5⟩, e6, e⟩ := bnd e
        intro O' σ' H' s S'
        refine ⟨true, hin n hn, fun _ a ha => ?_, fun z => nomatch z⟩
        refine hts n hn a _ _ _ ?_
        have S2 := S'.drop (w := some (.ref a)) e4
        have hi : i < σ'.length := by
          rw [S'.len]
          exact (putS_of e4).2.1
        refine htx n hn a _ (List.getElem?_set_self hi) B O' I H' e3 r5 e5 S2 e6 _ fun v H2 P2 => ?_
        dsimp only at e
        split at e
        · exact False.elim P2
        · cases e
          exact OutOk.rt k s P2
      · cases e
end
/-- the suite, by the classes that are known -/
def tsOf (cl : Nat → Addr) (ks : List Nat) (tx : Addr → Nat → TE) : Addr → Value → Option Addr → TS := fun a cls d D σ H => ∃ n, n ∈ ks ∧ cls = .ref (cl n) ∧ d = none ∧ tRet (tx a n) D σ H
theorem pss_tsOf {X : Cx} {st : List Stmt} {cl : Nat → Addr} {ks : List Nat} {tx : Addr → Nat → TE} {a : Addr} {cls : Value} {d : Option Addr} (h : ∀ n, n ∈ ks → cls = .ref (cl n) → d = none → PSs X st (tRet (tx a n))) : PSs X st (tsOf cl ks tx a cls d) :=
  ⟨fun pins s σ H D I z => by
    obtain ⟨n, z1, z2, z3, z4⟩ := z
    exact (h n z1 z2 z3).run pins s σ H D I z4⟩
theorem takesN {X : Cx} : L2N.Takes X (fun _ _ _ _ => False) := fun _ _ x => by
  obtain ⟨_, _, _, _, _, _, _, _, _, _, _, _, _, _, _, _, z⟩ := x
  exact z.elim
theorem ss_tryT {K : PySem.W.Frag} {W : WN} {cl : Nat → Addr} {c : Value} {i : Nat} {ks : List Nat} {tb : L2.WX → TS} {tx : Addr → Nat → TE} {Wout : L2.WX} {g : SFn} {h : Nat → EF}
    (hb : ∀ WX : L2.WX, SndS K (wn cl WX) (tb WX) g) (hin : ∀ n, n ∈ ks → PySem.W.exmOne K (.ref (cl n)) c = some true)
    (htx : ∀ n, n ∈ ks → ∀ (a : Addr) (σ : L2.St), σ[i]? = some (some (.ref a)) → SndAt K σ (tx a n) (h n)) :
    SndS K W (fun D σ H => tb (wAs K c i (tsOf cl ks tx) Wout D) D σ H) (fTry i ks g h) :=
  ss_try hb hin (fun n hn a D σ H z => ⟨n, hn, rfl, rfl, z⟩) htx
/-- raise X('..') -/
theorem ps_raiseK {X : Cx} {C : Addr} {W : L2.WX} {x m : Str} {j : Nat} {p p2 pos pos' : Pos} (hc : X.calm = true) (tk : L2N.Takes X W) (q : PySem.W.excIn X.K C [.type "ValueError", .type "Exception", .type "BaseException", .type "object"] "ValueError.__new__" = true) (gC : X.mg x = some (.ref C)) (kC : PySem.W.keepIn X.K (.ref C) = true)
    (r1 : PySem.W.subIn X.K (.ref C) (.type "BaseException") = some true) (r2 : PySem.W.typeIn X.K (.ref C) = some (.type "type")) (hg : Gl X x) (hdb : (x == ("__debug__" : Str)) = false := by decide) :
    PS X (.Raise (some (.Call (.Name x p) [.Constant (.str m) j p2] [] pos)) none pos') (tRaise C W) := L2N.ps_raise hc tk (L2N.pmk_own PySem.F.excBase_ValueError q gC kC (raises_own r1 r2) hg hdb)
/-! the promises -/
theorem ok_defX {P : Program} {w : World} {K : PySem.W.Frag} {mg : Str → Option Value} {base : Heap} {x qual : Str} {st : Stmt} {f : Addr} {fd : FuncData} {N ps : List Str} {k : Nat} {io : List Bool} {b : SFn} {cl : Nat → Addr} (F : Fun K x qual st f fd) (S : FnScope N ps (defScope st)) (hl : io.length = ps.length)
    (hb : ∀ (cdv : Value) (A : Around) (outer : List PySem.Env) (s : Shared) (H : Hp) (E : XK), Room k (A.deeper (envOfC qual (defScope st) s.heap.objs.size f cdv)) →
      L2N.Takes (cxOf (L2N.CX P w) P w K mg base N qual (defScope st) f cdv A outer s H E) (fun c d _ H => E c d H) →
      ∃ t, PSs (cxOf (L2N.CX P w) P w K mg base N qual (defScope st) f cdv A outer s H E) (defBody st) t ∧ SndS K (wn cl fun c d _ H => E c d H) t b) :
    FnOk P w K mg base (L2N.CX P w) (k + 1) f fd ps (spX K cl io (fDefX (N.length - io.length) io b)) := by
  obtain ⟨oc, od, kV, doc, pm, an, cdv, ct, osl, rfl, lk, hcd⟩ := F.ex
  refine fn_of lk hcd S (fun vs H Q E h => ?_) fun A outer s H vs Q E hr hsp => ?_
  · obtain ⟨O, ds, r, hio, ha, _⟩ := h
    rw [ha.len, hl]
  · obtain ⟨t, h1, h2⟩ := hb cdv A outer s H E hr (L2N.takes_of rfl rfl rfl rfl)
    exact ⟨t, h1, body_okX h2 rfl hsp⟩
/-- where it does not refuse -/
theorem ok_plain {P : Program} {w : World} {K : PySem.W.Frag} {mg : Str → Option Value} {base : Heap} {f : Addr} {fd : FuncData} {ps : List Str} {k m : Nat} {io : List Bool} {b : SFn} {cl : Nat → Addr} (hio : noIo io) (F : FnOk P w K mg base (L2N.CX P w) k f fd ps (spX K cl io (fDefX m io b))) :
    FnOk P w K mg base CX0 k f fd ps (spD K io (fDef m io b)) := by
  have imp : ∀ vs H Q E, spD K io (fDef m io b) vs H Q E → spX K cl io (fDefX m io b) vs H Q E0 := fun vs H Q E h => by
    obtain ⟨O, ds, r, fr, outs, ha, hn, hd, ht, eg, q⟩ := h
    rw [ioA_no hio] at q
    refine ⟨O, ds, _, hio, ha, hd, ht, fDefX_of eg, fun d' fr' outs' e v H' R => ?_, fun n e => nomatch e⟩
    cases e
    exact q v H' R
  refine ⟨fun vs H Q E h => F.len vs H Q E0 (imp vs H Q E h), fun A outer s H args us vs Q E hr he hb hv h => ?_⟩
  refine codeAny_mono (F.run A outer s H args us vs Q E0 hr he hb hv (imp vs H Q E h)) fun r s' hq => ?_
  cases r with
  | error e =>
    obtain ⟨_, _, _, _, _, _, _, _, _, _, _, _, z⟩ := hq
    exact z.elim
  | ok fl => cases fl <;> exact hq
end Dv

/-! # a def that is told of a refusal, called where the refusal is handled: its promise, isinstance of it, a comprehension over range there -/
namespace Dv
open PySem PySem.Spec PyProof.Rows L2 L2H HotX

section
variable {P : Program} {w : World} {K : PySem.W.Frag} {mg : Str → Option Value} {base : Heap}
/-- a def's promise where p is the exception handled -/
def FnAt (P : Program) (w : World) (K : PySem.W.Frag) (mg : Str → Option Value) (base : Heap) (k : Nat) (f : Addr) (fd : FuncData) (ps : List Str) (p : Addr × Obj) (sp : Sp) : Prop :=
  (∀ vs H Q E, sp vs H Q E → vs.length = ps.length) ∧
  ∀ (A : Around) (outer : List PySem.Env) (s : Shared) (H : Hp) (args : Args) (us : List Value) (vs : List V) (Q : VK) (E : XK), RoomH k A → Hot1 A p → PinOk outer H s p → Env0 P w K mg base A outer s H → BindsTo s fd args (ps.zip us) → Vals vs us → sp vs H Q E →
    codeAny (model P w) A (.call (.ref f) args) (CR CX0 outer P w H s Q E) s
theorem fnAt_of {x qual : Str} {st : Stmt} {f : Addr} {fd : FuncData} {N ps : List Str} {k : Nat} {sp : Sp} {p : Addr × Obj} (F : Fun K x qual st f fd) (S : FnScope N ps (defScope st)) (len : ∀ vs H Q E, sp vs H Q E → vs.length = ps.length)
    (hbody : ∀ (cdv : Value) (A : Around) (outer : List PySem.Env) (s : Shared) (H : Hp) (vs : List V) (Q : VK) (E : XK), Hot1 A p → RoomH k (A.deeper (envOfC qual (defScope st) s.heap.objs.size f cdv)) → sp vs H Q E →
      ∃ t, PSs (cxH CX0 P w K mg base N qual (defScope st) f cdv A outer s H E p) (defBody st) t ∧ t { nx := fun _ H' => Q .non H', rt := Q } (L2.start N vs) H) : FnAt P w K mg base (k + 1) f fd ps p sp := by
  obtain ⟨oc, od, kV, doc, pm, an, cdv, ct, osl, rfl, lk, hcd⟩ := F.ex
  refine ⟨len, fun A outer s H args us vs Q E hr hot hpin e0 hb r hsp => ?_⟩
  have KX : K.In s.heap := e0.mod.kin.keeps fun b o e => (e0.bs b o e).1
  have lim : s.heap.NoLimit := e0.mod.nolimit.keeps fun b o e => (e0.bs b o e).1
  refine codeAny_call_function hr.depth (KX _ _ lk) rfl S.co S.gen rfl (PySem.W.codeRec_of KX hcd) (hb _ _ _ _ ?_)
  refine wpAny_newFunctionEnv_cells S.kind (fun ⟨n, v⟩ hy => ?_) fun env he s1 x => ?_
  · rcases S.par n (List.of_mem_zip hy).1 with q | q
    · exact .inl q
    · exact .inr ⟨q, PySem.W.cellsFrom_some _ _ _ (.inl q)⟩
  subst he
  refine ⟨lim.keeps x.toInCall.keep, codeAny_func ?_⟩
  obtain ⟨t, ht, hq⟩ := hbody cdv A outer s H vs Q E hot (hr.deeper _) hsp
  refine wpAny_mono (ht.run [] s1 (L2.start N vs) H _ (inv_startH S hpin e0 (len _ _ _ _ hsp) r x) hq) (fun fl s' hs => ?_) fun e s' hs => hs
  cases fl with
  | ret u =>
    obtain ⟨v, σ', H', J, rv, q⟩ := hs
    exact ⟨v, H', J.os, J.bare, J.base, J.hok, rv, q⟩
  | next =>
    obtain ⟨σ', H', J, q⟩ := hs
    exact ⟨V.non, H', J.os, J.bare, J.base, J.hok, rfl, q⟩
  | brk =>
    obtain ⟨_, _, _, q⟩ := hs
    exact False.elim q
  | cont =>
    obtain ⟨_, _, _, q⟩ := hs
    exact False.elim q
end
section
variable {X : Cx}
/-- .. called with the exception itself -/
theorem pe_callAt {k i : Nat} {f a : Addr} {fd : FuncData} {ps : List Str} {oe : Obj} {w : V} {x n : Str} {pn : List (Addr × Obj)} {q pos p2 : Pos} (F : FnAt X.prog X.w X.K X.mg X.base k f fd ps (a, oe) (fun vs H Q _ => vs = [.ref a] ∧ ∀ H', Same H H' → Q w H')) (hr : Room k X.A)
    (hz : ∃ vs : Array Value, oe.data = .fields vs ∧ vs[2]? = some .none) (hg : Gl X x) (hm : X.mg x = some (.ref f)) (hk : PySem.W.keepIn X.K (.ref f) = true) (hb : Binds X.K fd ps [])
    (hv : PE (X.suite a ((a, oe) :: pn)) (.Name n p2) (tVar i))
    (hdb : (x == ("__debug__" : Str)) = false := by decide) (he : starEach [.Name n p2] X.env = (false, eval (.Name n p2) X.env) :: starEach [] X.env := by rfl) (hpl : (backTo pos (starEach [] X.env)).any (·.1) = false := by rfl) :
    PE (X.suite a ((a, oe) :: pn)) (.Call (.Name x q) [.Name n p2] [] pos) (tKd i a w) := by
  refine ⟨fun pins s σ H Q I h => ?_⟩
  obtain ⟨h1, h2⟩ := h
  have ha : PA (X.suite a ((a, oe) :: pn)) [.Name n p2] (tCons (tVar i) tNil) := pa_cons hv pa_nil
  refine wpAny_Call_Name_kw (ld_glob I hg hm ?_ hdb)
  refine PySem.W.callWith_K (h₀ := X.base) I.ok.mod.kin hk (thn (ha.run pos pins s σ H (fun vs H1 => vs = [.ref a] ∧ H1 = H) I ⟨_, h1, rfl, rfl⟩) fun us s1 ⟨vs, H1, I1, r, e1, e2⟩ => ⟨I1.kIn, ?_⟩) he hpl
  subst e1
  subst e2
  have hot : Hot1 (X.suite a ((a, oe) :: pn)).A (a, oe) := ⟨rfl, hz⟩
  have P1 := I1.pin (a, oe) (List.mem_append_left _ List.mem_cons_self)
  have hpin : PinOk (X.suite a ((a, oe) :: pn)).stack H1 s1 (a, oe) := ⟨P1.1, P1.2.1, fun hm => (List.mem_cons.mp (I1.stkSub a hm)).elim P1.2.2.1 P1.2.2.2.1, P1.2.2.2.2⟩
  have hl : us.length = ps.length := by
    rw [← r.length]
    exact F.1 [.ref a] H1 Q E0 ⟨rfl, h2⟩
  have b := hb s1 us I1.kIn (by rw [List.append_nil]; exact hl)
  rw [List.append_nil] at b
  have hrH : RoomH k (X.suite a ((a, oe) :: pn)).A := ⟨hr.dp, hr.un⟩
  refine wpAny_call (codeAny_mono (F.2 (X.suite a ((a, oe) :: pn)).A (X.suite a ((a, oe) :: pn)).stack s1 H1 ⟨us, []⟩ us [.ref a] Q E0 hrH hot hpin I1.env0 b r ⟨rfl, h2⟩) fun r s' hq => ?_)
  cases r with
  | error e => exact False.elim hq
  | ok fl =>
    cases fl with
    | ret u => exact I1.after hq
    | next => exact False.elim hq
    | brk => exact False.elim hq
    | cont => exact False.elim hq
/-- isinstance of it -/
theorem call_isAt {a Dc : Addr} {oe : Obj} (C : ExcC X.K Dc) (hp : (a, oe) ∈ X.pn) (hz : Zc (.ref Dc) none oe) (hf : ∃ vs, oe.data = .fields vs) : CallR X (.builtin "isinstance") (rIsE X.K Dc a) := by
  intro pins s σ H xs us Q I r h
  obtain ⟨c, cv, b, rfl, hcv, e, q⟩ := h
  cases r with
  | cons rx rr =>
    cases rr with
    | cons rt rr =>
      cases rr
      cases rx
      have ec := hcv _ rt
      subst ec
      obtain ⟨hget, _⟩ := I.pin (a, oe) (List.mem_append_left _ hp)
      obtain ⟨vs, hv⟩ := hf
      have J : PySem.W.InstAt s.heap a oe Dc none := by
        obtain ⟨oc, od, oda, osl⟩ := oe
        obtain ⟨h1, h2⟩ := hz
        dsimp only at h1 h2 hv
        subst h1 h2 hv
        exact ⟨hget, rfl, rfl, trivial⟩
      exact PySem.W.kia_one (PySem.W.handS_kitx_exc C.hg C.hk C.hs C.hd C.ha C.hn C.ht C.hm) I.kIn J e (fun z => nomatch z) fun tk => ⟨.bl b, H, I.kept (t' := tk) fun _ _ z => z, rfl, q⟩
end

/-! ### [elt for name in range(e) if ..] where an exception is handled -/
section
variable {X : Cx}
theorem pe_lcHot {tg : Expr} {elt a0 : Expr} {ifs : List Expr} {scope : Scope} {own : List (Str × Nat)} {pos p0 q0 : Pos} {ta : TA} {g : TG} {tt : TT} {te : TE} (hc : HotC X) (hN : X.N.Nodup) (hgr : Gl X "range") (hmr : X.mg "range" = none) (har : PA X [a0] ta) (hsr : starEach [a0] X.env = [(false, eval a0 X.env)]) (ok : BlkOk X.N X.env.scope scope own)
    (hg : ∀ (s : Shared) (H : Hp) (C : Addr) (cl : List (Str × Addr)) (fp : List Addr), PG (X.blk s H scope (compEnvC scope cl C X.env) fp) tg g) (ht : ∀ (s : Shared) (H : Hp) (C : Addr) (cl : List (Str × Addr)) (fp : List Addr), PTs (X.blk s H scope (compEnvC scope cl C X.env) fp) ifs tt)
    (he : ∀ (s : Shared) (H : Hp) (C : Addr) (cl : List (Str × Addr)) (fp : List Addr), PE (X.blk s H scope (compEnvC scope cl C X.env) fp) elt te) (hs : ∀ x, foldedSetIterable (.Call (.Name "range" p0) [a0] [] q0) X.env x = pure x := by intro _; rfl) :
    PE X (.ListComp elt [⟨tg, .Call (.Name "range" p0) [a0] [] q0, ifs, 0⟩] scope pos) (tLc (iRng1 ta) g tt te (own.map (·.2))) := by
  refine ⟨fun pins s σ H Q I h => ?_⟩
  rw [eval_ListComp]
  have hfree : ∀ y ∈ scope.names, y.2 = .free → ∃ c, X.env.cells.lookup y.1 = some c := fun y hy e => by
    rcases ok.free y hy e with k | k
    · exact I.ok.has _ (.inl k)
    · exact I.ok.has _ (.inr k)
  refine wpAny_comprehension_free (use := none) rfl hs (closure_ok hfree) ok.kind (fun y hy e => by rw [ok.uniq y hy, e]) ?_
  refine thn ((pi_range1H (tg := tg) hgr hmr har hsr).run pins s σ H _ I h) fun xv s1 hx => thn hx fun itv s2 h2 => ?_
  obtain ⟨it, fp, tn, J, H2, e, I2, T, st2, f2, q⟩ := h2
  subst e
  refine wpAny_newObj_type (newEnv_comp ?_) (by show 0 ≤ sizeLine; decide)
  generalize hD : s2.heap.objs.size = L
  have hLn : H2 L = none := I2.hok.fresh (Nat.le_of_eq hD)
  obtain ⟨W, ⟨m0, w0⟩, turn⟩ := q L hLn
  generalize hs3 : ({ s2 with heap := s2.heap.push { cls := .type "list", data := .seq ([] : List Value).toArray } } : Shared) = s3
  have h3 : s3.heap = s2.heap.push { cls := .type "list", data := .seq ([] : List Value).toArray } := by rw [← hs3]
  generalize hH3 : upd H2 L (.lst []) = H3 at w0
  have I3 : Inv X pins σ H3 s3 := by
    rw [← hs3, ← hH3]
    refine I2.laid (t' := s2.toks) (fun b o e => Heap.get?_push_of_some _ e) (Nat.le_of_eq hD) ⟨Nat.zero_le _, [], 0, .nil, ?_⟩
    rw [← hD]
    exact Heap.get?_push_size _ rfl
  have sz : ∀ b ∈ fp, b < s2.heap.objs.size := fun b hb => by
    obtain ⟨o, e, _⟩ := T.obj _ _ st2 b hb
    exact Heap.lt_size e
  have f3 : ∀ b ∈ fp, FpOk X pins H3 b ∧ b < s3.heap.objs.size := fun b hb => by
    refine ⟨⟨?_, (f2 b hb).2⟩, by rw [h3, Heap.size_push]; exact Nat.lt_succ_of_lt (sz b hb)⟩
    rw [← hH3, upd_ne (by rw [← hD]; exact Nat.ne_of_lt (sz b hb))]
    exact (f2 b hb).1
  have st3 : tn 0 s3.heap := T.keep _ _ _ st2 fun b _ o e => by rw [h3]; exact Heap.get?_push_of_some _ e
  have I4 := block_start I3 ok hN f3
  generalize hcl : cellsFrom (s3.heap.objs.size + 1) scope.names (cloFrom X.env.cells scope.names []) = cl at I4
  have pg := hg s3 H3 s3.heap.objs.size cl fp
  have pt := ht s3 H3 s3.heap.objs.size cl fp
  have pe := he s3 H3 s3.heap.objs.size cl fp
  generalize hce : compEnvC scope cl s3.heap.objs.size X.env = ce at I4 pg pt pe
  have cL : ce.locals = s3.heap.objs.size := by subst hce; rfl
  generalize hs4 : ({ s3 with heap := pushCells (s3.heap.push { cls := .type "dict", data := .dict #[] }) scope.names } : Shared) = s4 at I4
  have st4 : tn 0 s4.heap := T.keep _ _ _ st3 fun b _ o e => by rw [← hs4]; exact pushCells_keeps _ _ _ _ (Heap.get?_push_of_some _ e)
  -- the same block, with what X keeps
  have hc2 : HotC ((X.blk s3 H3 scope ce fp).tr X.pn fun _ _ => False) := by
    obtain ⟨p, hp1, hp2⟩ := hc
    exact ⟨p, hp1, hp2⟩
  have pinB : ∀ {σ' : L2.St} {H' : Hp} {s' : Shared}, Inv (X.blk s3 H3 scope ce fp) [] σ' H' s' → Inv ((X.blk s3 H3 scope ce fp).tr X.pn fun _ _ => False) [] σ' H' s' := fun {σ' H' s'} I' =>
    ⟨I'.ok.toTry _ _, I'.os, I'.bare, I'.base, I'.loc, I'.cell, I'.free, I'.freeC, fun p hp => by
      rw [List.append_nil] at hp
      have P3 := I3.pin p (List.mem_append_left _ hp)
      have nst : p.1 ∉ frs X.stack := fun z => (List.mem_cons.mp (I3.stkSub p.1 z)).elim P3.2.2.1 P3.2.2.2.1
      have nfp : p.1 ∉ fp := fun z => (f3 p.1 z).1.2.2.2.2.2 p (List.mem_append_left _ hp) rfl
      refine ⟨I'.base.keep p.1 p.2 P3.1 P3.2.1 nst nfp, I'.base.free p.1 p.2 P3.1 P3.2.1 nfp, fun z => ?_, nst, P3.2.2.2.2⟩
      have z1 : p.1 = ce.locals := z
      rw [cL] at z1
      exact absurd (Heap.lt_size P3.1) (by rw [z1]; exact Nat.lt_irrefl _), I'.hok, I'.len⟩
  have unB : ∀ {σ' : L2.St} {H' : Hp} {s' : Shared} {o : (X.blk s3 H3 scope ce fp).Ok}, Inv ((X.blk s3 H3 scope ce fp).tr X.pn fun _ _ => False) [] σ' H' s' → Inv (X.blk s3 H3 scope ce fp) [] σ' H' s' := fun {σ' H' s' o} I' =>
    ⟨o, I'.os, I'.bare, I'.base, I'.loc, I'.cell, I'.free, I'.freeC, fun p hp => absurd (show p ∈ ([] : List (Addr × Obj)) ++ [] from hp) (by simp), I'.hok, I'.len⟩
  have okB := I4.ok
  have stat : ∀ {σ' : L2.St} {H' : Hp} {s' : Shared}, Inv (X.blk s3 H3 scope ce fp) [] σ' H' s' → (∀ b ∈ fp, H' b = none) → (∀ b ∈ fp, FpOk (X.blk s3 H3 scope ce fp) [] H' b) ∧ ∀ b ∈ fp, FpOk ((X.blk s3 H3 scope ce fp).tr X.pn fun _ _ => False) [] H' b := fun {σ' H' s'} I' hn =>
    ⟨fun b hb => ⟨hn b hb, (I'.ok.exf b hb).1, I'.ok.exfs b hb, .inl hb, fun x c e => (I'.ok.exf b hb).2 x c e, fun p hp => absurd (show p ∈ ([] : List (Addr × Obj)) ++ [] from hp) (by simp)⟩,
      fun b hb => ⟨hn b hb, (I'.ok.exf b hb).1, I'.ok.exfs b hb, .inl hb, fun x c e => (I'.ok.exf b hb).2 x c e, fun p hp => (f3 b hb).1.2.2.2.2.2 p (List.mem_append_left _ (by rw [List.append_nil] at hp; exact hp))⟩⟩
  have loop : codeAny (model X.prog X.w) X.A (.compLoop (.ListComp elt [⟨tg, .Call (.Name "range" p0) [a0] [] q0, ifs, 0⟩] scope pos) 0 (.ref it) (.ref L) ce) (compPost (model X.prog X.w) X.A X.xe none (EP X pins σ Q) (.ref L) s3.heap.objs.size) s4 := by
    refine compLoop_any (fun n s' => ∃ i H', Inv (X.blk s3 H3 scope ce fp) [] (wipe σ (own.map (·.2))) H' s' ∧ tn i s'.heap ∧ (∀ b ∈ fp, H' b = none) ∧ W i n H') ?_ m0 ⟨0, H3, I4, st4, fun b hb => (f3 b hb).1.1, w0⟩
    rintro n s5 ⟨i, H5, I5, st5, n5, w5⟩
    rcases turn i n H5 w5 with ⟨stop, qq⟩ | ⟨go, Nx, hNx, step⟩
    · refine thnF (T.done ((X.blk s3 H3 scope ce fp).tr X.pn fun _ _ => False) rfl rfl rfl hc2 i [] s5 _ H5 (fun _ _ => False) (pinB I5) (stat I5 n5).2 st5 stop) fun r s6 ⟨hr, I6'⟩ => ?_
      subst hr
      have I6 : Inv (X.blk s3 H3 scope ce fp) [] (wipe σ (own.map (·.2))) H5 s6 := unB (o := okB) I6'
      have I7 : Inv X pins σ H5 s6 := I3.call' (ch := fp) I6.os I6.base I6.hok I6.bare fun b hb => ⟨(f3 b hb).1.2.2.2.1, (f3 b hb).1.2.1, (f3 b hb).1.2.2.2.2.1, (f3 b hb).1.2.2.2.2.2⟩
      have nC : H5 s3.heap.objs.size = none := by
        have z : H5 ce.locals = none := I6.free
        rw [cL] at z
        exact z
      obtain ⟨m, hn, _⟩ := I6.loc
      have hn : s6.heap.Ns ce.locals m := hn
      rw [cL] at hn
      obtain ⟨g0, g1, g2, g3, g4, g5⟩ := I3.fpOk (b := s3.heap.objs.size) (H' := H5) (Nat.le_refl _) nC
      exact ⟨m, hn, fun h'' sb => ⟨.ref L, H5, I7.turned (t' := s6.toks) (fun b o hb e => (sb.2 b hb).trans e) g0 g1 g3 g4 g5, rfl, qq⟩⟩
    · refine thnF (T.item ((X.blk s3 H3 scope ce fp).tr X.pn fun _ _ => False) rfl rfl rfl hc2 i [] s5 _ H5 (fun _ _ => False) (pinB I5) (stat I5 n5).2 st5 go) fun r s6 ⟨u, hr, h6⟩ => ?_
      subst hr
      refine thnF h6 fun _ s7 ⟨x, H7, I7', r7, y7, st7, n7⟩ => ?_
      have I7 : Inv (X.blk s3 H3 scope ce fp) [] (wipe σ (own.map (·.2))) H7 s7 := unB (o := okB) I7'
      refine thnF (pg.run _ s7 _ H7 x u _ (I7.pinned (stat I7 n7).1 (T.obj _ _ st7)) r7 (step x H7 y7)) fun _ s8 ⟨σ8, H8, I8, hw8, q8⟩ => ?_
      refine thnF (pt.run _ s8 σ8 H8 _ I8 q8) fun b s9 ⟨H9, I9, q9⟩ => ?_
      have fin : ∀ {s' : Shared} {H' : Hp}, Inv (X.blk s3 H3 scope ce fp) ([] ++ pinsAt fp s7.heap) σ8 H' s' → Nx H' → ∃ m, m < n ∧ ∃ i H', Inv (X.blk s3 H3 scope ce fp) [] (wipe σ (own.map (·.2))) H' s' ∧ tn i s'.heap ∧ (∀ b ∈ fp, H' b = none) ∧ W i m H' := fun {s' H'} I' nx => by
        obtain ⟨m', hm, w'⟩ := hNx H' nx
        have pin' : ∀ b ∈ fp, ∀ o, s7.heap.get? b = some o → s'.heap.get? b = some o ∧ H' b = none := fun b hb o e =>
          have z := I'.pin (b, o) (List.mem_append_right _ (List.mem_append_right _ (mem_pinsAt hb e)))
          ⟨z.1, z.2.1⟩
        refine ⟨m', hm, i + 1, H', (I'.unpinned (pins := [])).weak (by rw [← hw8, wipe_length]) (fun j v e => ?_), T.keep _ _ _ st7 fun b hb o e => (pin' b hb o e).1, fun b hb => ?_, w'⟩
        · rw [← hw8] at e
          exact (wipe_some e).1
        · obtain ⟨o, e, _⟩ := T.obj _ _ st7 b hb
          exact (pin' b hb o e).2
      cases b with
      | false =>
        simp only [Bool.false_eq_true, if_false] at q9 ⊢
        exact fin I9 q9
      | true =>
        simp only [if_true] at q9 ⊢
        refine thnF (pe.run _ s9 σ8 H9 _ I9 q9) fun z s10 ⟨yv, H10, I10, r10, acc, hD10, hz10, nx⟩ => ?_
        exact app_ok (X := X.blk s3 H3 scope ce fp) I10 hD10 hz10 r10 fun s11 I11 => fin I11 nx
  subst hce
  exact codeAny_compStart_list loop (T.self X.A 0 _ _ _ st4 loop)
end
end Dv

/-! # of which of the refusals a refusal is: what the law's own def of that computes -/
namespace Dv
open PySem PySem.Spec PyProof.Rows L2

section
variable {K : PySem.W.Frag} {Dc a : Addr}
def tIs (K : PySem.W.Frag) (Dc a : Addr) (c : V) : TE := tCB (rIsE K Dc a) (tCons (tVar 0) (tCons (tC c) tNil))
def tIss (K : PySem.W.Frag) (Dc a : Addr) : List Addr → TA
  | [] => tNil
  | c :: cs => tCons (tIs K Dc a (.ref c)) (tIss K Dc a cs)
def tStrs : List Str → TA
  | [] => tNil
  | w :: ws => tCons (tC (.str w)) (tStrs ws)
/-- it is of the classes as told -/
def KitAll (K : PySem.W.Frag) (Dc : Addr) : List Addr → List Bool → Prop
  | [], [] => True
  | c :: cs, b :: bs => PySem.W.kitOne K (.ref Dc) (.ref c) = some b ∧ KitAll K Dc cs bs
  | _, _ => False
theorem KitAll.len : ∀ {cs : List Addr} {bs : List Bool}, KitAll K Dc cs bs → cs.length = bs.length
  | [], [], _ => rfl
  | c :: cs, b :: bs, h => by simp [KitAll.len h.2]
  | [], _ :: _, h => h.elim
  | _ :: _, [], h => h.elim
theorem is_at {σ : L2.St} {H : Hp} {c : V} {cv : Value} {b : Bool} {Q : VK} (h0 : σ[0]? = some (some (.ref a))) (hc : ∀ u, RelV c u → u = cv) (hk : PySem.W.kitOne K (.ref Dc) cv = some b) (q : Q (.bl b) H) : tIs K Dc a c σ H Q :=
  ⟨_, h0, c, cv, b, rfl, hc, hk, q⟩
theorem iss_at {σ : L2.St} {H : Hp} (h0 : σ[0]? = some (some (.ref a))) : ∀ {cs : List Addr} {bs : List Bool} {Q : List V → Hp → Prop}, KitAll K Dc cs bs → Q (bs.map V.bl) H → tIss K Dc a cs σ H Q
  | [], [], _, _, q => q
  | c :: cs, b :: bs, Q, h, q => is_at h0 (cv := .ref c) (fun u r => by cases r; rfl) h.1 (iss_at h0 h.2 q)
  | [], _ :: _, _, h, _ => h.elim
  | _ :: _, [], _, h, _ => h.elim
theorem strs_at {σ : L2.St} {H : Hp} : ∀ {ws : List Str} {Q : List V → Hp → Prop}, Q (ws.map V.str) H → tStrs ws σ H Q
  | [], _, q => q
  | w :: ws, Q, q => strs_at (ws := ws) (Q := fun vs => Q (.str w :: vs)) q
abbrev rJoinK (K : PySem.W.Frag) : V → List V → Hp → VK → Prop := fun x xs H Q => ∃ a p, ∃ ys : List Str, x = .str a ∧ xs = [.ref p] ∧ (SqL K H p (ys.map V.str) ∨ SqT K H p (ys.map V.str)) ∧
    (ys.map (·.length)).sum + ys.length * a.length ≤ 16777216 ∧ Q (.str (Txt.join a ys)) H
def pick : List Bool → List Str → List Str
  | b :: bs, w :: ws => if b then w :: pick bs ws else pick bs ws
  | _, _ => []
theorem pick_take {bs : List Bool} {ws : List Str} : ∀ {i : Nat} {b : Bool} {w : Str}, bs[i]? = some b → ws[i]? = some w → pick (bs.take (i + 1)) (ws.take (i + 1)) = pick (bs.take i) (ws.take i) ++ (if b then [w] else []) := by
  induction bs generalizing ws with
  | nil => intro i b w h; simp at h
  | cons b0 bs ih =>
    intro i b w h1 h2
    cases ws with
    | nil => simp at h2
    | cons w0 ws =>
      cases i with
      | zero =>
        simp at h1 h2
        subst h1 h2
        cases b0 <;> simp [pick]
      | succ i =>
        have := ih (ws := ws) (i := i) (b := b) (w := w) (by simpa using h1) (by simpa using h2)
        simp only [List.take_succ_cons, pick, this]
        cases b0 <;> simp
theorem atI_nat {α : Type} {xs : List α} {i : Nat} {x : α} (h : xs[i]? = some x) : L2.atI xs (0 + (i : Nat) : Int) = some x := by
  have hi : i < xs.length := (List.getElem?_eq_some_iff.mp h).1
  rw [Int.zero_add]
  have e : ixN xs.length (i : Int) = some i := by
    unfold ixN
    first
      | (simp; omega)
      | (split <;> simp <;> omega)
  unfold L2.atI
  rw [e]
  exact h
def tKindS (K : PySem.W.Frag) (Dc a : Addr) (cs1 cs2 cs3 : List Addr) (ws1 ws2 : List Str) (tv : V) (sep els : Str) (n : Int) : TS :=
    tSeq (tAsg (tLst (tIss K Dc a cs1)) (gName 1)) (tSeq (tAsg (tOp rCat (tVar 1) (tLst (tIss K Dc a cs2))) (gName 1)) (tSeq (tAsg (tOp rCat (tVar 1) (tLst (tIss K Dc a cs3))) (gName 1))
      (tSeq (tAsg (tLst (tStrs ws1)) (gName 2)) (tSeq (tAsg (tOp rCat (tVar 2) (tLst (tStrs ws2))) (gName 2)) (tSeq (tIfS (tNot (tB (tIs K Dc a tv))) (tRet (tC (.str els))) tNext)
        (tRet (tM1 (rJoinK K) (tC (.str sep)) (tLc (iRng1 (tCons (tC (.int n)) tNil)) (gName 3) (tB (tOp (rIx K) (tVar 1) (tVar 3))) (tOp (rIx K) (tVar 2) (tVar 3)) [3]))))))))
theorem kind_eval {cs1 cs2 cs3 : List Addr} {bs1 bs2 bs3 : List Bool} {ws1 ws2 : List Str} {tv : V} {cvv : Value} {sep els : Str} {n : Int} {Q : VK} {H : Hp}
    (h1 : KitAll K Dc cs1 bs1) (h2 : KitAll K Dc cs2 bs2) (h3 : KitAll K Dc cs3 bs3) (hv : ∀ u, RelV tv u → u = cvv) (hV : PySem.W.kitOne K (.ref Dc) cvv = some true)
    (hn : n = 11) (hb : (bs1 ++ bs2 ++ bs3).length = 11) (hw : (ws1 ++ ws2).length = 11) (hsz : ((pick (bs1 ++ bs2 ++ bs3) (ws1 ++ ws2)).map (·.length)).sum + (pick (bs1 ++ bs2 ++ bs3) (ws1 ++ ws2)).length * sep.length ≤ 16777216)
    (q : ∀ H', Same H H' → Q (.str (Txt.join sep (pick (bs1 ++ bs2 ++ bs3) (ws1 ++ ws2)))) H') :
    tKindS K Dc a cs1 cs2 cs3 ws1 ws2 tv sep els n
      { nx := fun _ H' => Q .non H', rt := Q } [some (.ref a), none, none, none] H := by
  subst hn
  unfold tKindS
  have e1 := h1.len
  have e2 := h2.len
  have e3 := h3.len
  have l1 : bs1.length ≤ 11 := by simp at hb; omega
  have l2 : bs2.length ≤ 11 := by simp at hb; omega
  have l3 : bs3.length ≤ 11 := by simp at hb; omega
  have m1 : ws1.length ≤ 11 := by simp at hw; omega
  have m2 : ws2.length ≤ 11 := by simp at hw; omega
  refine iss_at rfl h1 ⟨by rw [List.length_map]; exact line_of (by omega), fun p1 hp1 => ?_⟩
  refine ⟨.ref p1, rfl, iss_at rfl h2 ⟨by rw [List.length_map]; exact line_of (by omega), fun p2 hp2 => ?_⟩⟩
  have n21 : p1 ≠ p2 := fun z => by
    subst z
    rw [upd_same] at hp2
    cases hp2
  refine ⟨p1, p2, bs1.map V.bl, bs2.map V.bl, rfl, rfl, by rw [upd_ne n21, upd_same], upd_same, by rw [List.length_map, List.length_map]; exact line_of (by omega), fun p3 hp3 => ?_⟩
  refine ⟨.ref p3, rfl, iss_at rfl h3 ⟨by rw [List.length_map]; exact line_of (by omega), fun p4 hp4 => ?_⟩⟩
  have n43 : p3 ≠ p4 := fun z => by
    subst z
    rw [upd_same] at hp4
    cases hp4
  refine ⟨p3, p4, bs1.map V.bl ++ bs2.map V.bl, bs3.map V.bl, rfl, rfl, by rw [upd_ne n43, upd_same], upd_same, by simp only [List.length_append, List.length_map]; exact line_of (by omega), fun p5 hp5 => ?_⟩
  refine strs_at ⟨by rw [List.length_map]; exact line_of (by omega), fun p6 hp6 => ?_⟩
  have n65 : p5 ≠ p6 := fun z => by
    subst z
    rw [upd_same] at hp6
    cases hp6
  refine ⟨.ref p6, rfl, strs_at ⟨by rw [List.length_map]; exact line_of (by omega), fun p7 hp7 => ?_⟩⟩
  have n76 : p6 ≠ p7 := fun z => by
    subst z
    rw [upd_same] at hp7
    cases hp7
  have n75 : p5 ≠ p7 := fun z => by
    subst z
    rw [upd_ne n65, upd_same] at hp7
    cases hp7
  refine ⟨p6, p7, ws1.map V.str, ws2.map V.str, rfl, rfl, by rw [upd_ne n76, upd_same], upd_same, by simp only [List.length_map]; exact line_of (by omega), fun p8 hp8 => ?_⟩
  have n85 : p5 ≠ p8 := fun z => by
    subst z
    rw [upd_ne n75, upd_ne n65, upd_same] at hp8
    cases hp8
  refine is_at rfl hv hV ⟨true, rfl, ?_⟩
  dsimp only
  rw [if_neg (show ¬ ((!true) = true) from Bool.false_ne_true)]
  refine And.intro ⟨sep, rfl⟩ ?_
  generalize hG : upd (upd (upd (upd (upd (upd (upd (upd H p1 _) p2 _) p3 _) p4 _) p5 _) p6 _) p7 _) p8 _ = G
  have g5 : G p5 = some (.lst ((bs1 ++ bs2 ++ bs3).map V.bl)) := by
    rw [← hG, upd_ne n85, upd_ne n75, upd_ne n65, upd_same]
    simp
  have g8 : G p8 = some (.lst ((ws1 ++ ws2).map V.str)) := by
    rw [← hG, upd_same]
    simp
  have gS : Same H G := by
    rw [← hG]
    exact (same_new hp1).trans ((same_new hp2).trans ((same_new hp3).trans ((same_new hp4).trans ((same_new hp5).trans ((same_new hp6).trans ((same_new hp7).trans (same_new hp8)))))))
  generalize hbs : bs1 ++ bs2 ++ bs3 = bs at *
  generalize hws : ws1 ++ ws2 = ws at *
  refine ⟨11, rfl, by decide, by decide, fun L hL => ?_⟩
  have nL5 : p5 ≠ L := fun z => by subst z; rw [g5] at hL; cases hL
  have nL8 : p8 ≠ L := fun z => by subst z; rw [g8] at hL; cases hL
  refine ⟨fun i m H' => i + m = 11 ∧ H' = upd G L (.lst ((pick (bs.take i) (ws.take i)).map V.str)), ⟨11, rfl, by simp [pick]⟩, fun i m H' ⟨w1, w2⟩ => ?_⟩
  subst w2
  cases m with
  | zero =>
    left
    have ei : i = 11 := by omega
    subst ei
    refine ⟨Nat.le_refl _, sep, L, pick bs ws, rfl, rfl, .inl (.inl (.inl ?_)), hsz, q _ ?_⟩
    · rw [upd_same, List.take_of_length_le (by omega), List.take_of_length_le (by omega)]
    · exact gS.trans (same_new hL)
  | succ m =>
    right
    have hi : i < 11 := by omega
    refine ⟨hi, fun H'' => H'' = upd G L (.lst ((pick (bs.take (i + 1)) (ws.take (i + 1))).map V.str)), fun H'' e => ⟨m, by omega, by omega, e⟩, fun x H'' hy => ?_⟩
    obtain ⟨rfl, rfl⟩ := hy
    refine ⟨rfl, ?_⟩
    have b1 : bs[i]? = some (bs[i]'(by omega)) := List.getElem?_eq_getElem (by omega)
    have b2 : ws[i]? = some (ws[i]'(by omega)) := List.getElem?_eq_getElem (by omega)
    have hp := pick_take b1 b2
    refine ⟨.ref p5, rfl, .int (0 + (i : Nat)), rfl, .inl ⟨p5, _, _, .bl (bs[i]'(by omega)), rfl, rfl, .inl (.inl (by rw [upd_ne nL5]; exact g5)), atI_nat (by rw [List.getElem?_map, b1]; rfl), ?_⟩⟩
    refine ⟨_, rfl, ?_⟩
    cases c : bs[i]'(by omega) with
    | false =>
      rw [if_neg Bool.false_ne_true]
      rw [c] at hp
      rw [hp]
      simp
    | true =>
      rw [if_pos rfl]
      rw [c] at hp
      refine ⟨.ref p8, rfl, .int (0 + (i : Nat)), rfl, .inl ⟨p8, _, _, .str (ws[i]'(by omega)), rfl, rfl, .inl (.inl (by rw [upd_ne nL8]; exact g8)), atI_nat (by rw [List.getElem?_map, b2]; rfl), ?_⟩⟩
      refine ⟨_, upd_same, ?_, ?_⟩
      · rw [List.length_map]
        refine line_lt ?_
        have : ∀ (bs : List Bool) (ws : List Str), (pick bs ws).length ≤ bs.length := by
          intro bs
          induction bs with
          | nil => intro ws; cases ws <;> simp [pick]
          | cons b bs ih =>
            intro ws
            cases ws with
            | nil => simp [pick]
            | cons w ws =>
              have := ih ws
              unfold pick
              split <;> simp <;> omega
        have z := this (bs.take i) (ws.take i)
        rw [List.length_take] at z
        omega
      · rw [hp]
        simp only [if_true, List.map_append, List.map_cons, List.map_nil]
        funext b
        by_cases e : b = L
        · subst e
          rw [upd_same, upd_same]
        · rw [upd_ne e, upd_ne e, upd_ne e]
end
/-! what isinstance and except ask of the classes -/
section
variable {K : PySem.W.Frag} {C D0 : Addr}
theorem kit_self : PySem.W.kitOne K (.ref D0) (.ref D0) = some true := if_pos (beq_self_eq_true _)
theorem kit_no (h1 : PySem.W.subIn K (.ref D0) (.ref C) = some false) (h2 : PySem.W.subIn K (.ref D0) (.ref D0) = some true) (hd : PySem.W.hasDictIn K C = true) (ht : PySem.W.typeIn K (.ref C) = some (.type "type")) : PySem.W.kitOne K (.ref D0) (.ref C) = some false := by
  obtain ⟨cd, hc, _⟩ := PySem.W.any_some hd
  have e2 : ((PySem.W.clsIn K C).isSome && PySem.W.typeIn K (.ref C) == some (.type "type")) = true := by rw [hc, ht] <;> rfl
  have ne : ¬ ((Value.ref D0 == Value.ref C) = true) := fun z => by
    have e : Value.ref D0 = Value.ref C := beq_iff_eq.mp z
    rw [← e, h2] at h1
    cases h1
  show (if (Value.ref D0 == Value.ref C) = true then some true else (if ((PySem.W.clsIn K C).isSome && PySem.W.typeIn K (.ref C) == some (.type "type")) = true then PySem.W.subIn K (.ref D0) (.ref C) else none)) = some false
  rw [if_neg ne, if_pos e2]
  exact h1
theorem kit_ve (h : PySem.W.subIn K (.ref D0) (.type "ValueError") = some true) : PySem.W.kitOne K (.ref D0) (.type "ValueError") = some true := by
  have hm : PySem.W.kitMeta "ValueError" = true := by decide +kernel
  have ne : ¬ ((Value.ref D0 == Value.type "ValueError") = true) := fun z => by
    have e : Value.ref D0 = Value.type "ValueError" := beq_iff_eq.mp z
    cases e
  show (if (Value.ref D0 == Value.type "ValueError") = true then some true else (if PySem.W.kitMeta "ValueError" = true then PySem.W.subIn K (.ref D0) (.type "ValueError") else none)) = some true
  rw [if_neg ne, if_pos hm]
  exact h
end
end Dv

/-! # defs told of a refusal, by plain functions; count, index, in, not in -/
theorem L2.Room.u65 {k : Nat} {A : PySem.Around} (r : L2.Room k A) : A.units + 65 < PySem.cLine := by have := r.un; omega
theorem L2H.RoomH.units {k : Nat} {A : PySem.Around} (r : L2H.RoomH k A) : A.units + 64 < PySem.cLine := by have := r.un; omega
theorem L2H.RoomH.u65 {k : Nat} {A : PySem.Around} (r : L2H.RoomH k A) : A.units + 65 < PySem.cLine := by have := r.un; omega
namespace Dv
open PySem PySem.Spec PyProof.Rows L2

section
variable {K : PySem.W.Frag} {B : Hp} {O : List Addr} {I : List (Nat × Addr)} {σ : L2.St} {H H' : Hp} {env env' : Env} {v : V} {t ta tb te : TE} {f fa fb fe : EF} {W : WN}
/-- isinstance of the refusal itself -/
def fIsE (i : Nat) (a : Addr) (b : Bool) : EF := fun env => match env[i]? with
  | some (.fz (.adr x)) => if x = a then some (.val (.bl b), env) else none
  | _ => none
theorem snd_isE {i : Nat} {a Dc : Addr} {c : V} {cv : Value} {b : Bool} (hc : ∀ u, RelV c u → u = cv) (hk : PySem.W.kitOne K (.ref Dc) cv = some b) :
    Snd K (tCB (rIsE K Dc a) (tCons (tVar i) (tCons (tC c) tNil))) (fIsE i a b) := by
  intro B O I σ H env rv env' S e Q q
  unfold fIsE at e
  split at e
  · rename_i x hx
    split at e
    · rename_i hxa
      cases e
      subst hxa
      obtain ⟨v, h1, h2⟩ := S.fz i _ hx
      cases h2
      exact ⟨_, h1, c, cv, b, rfl, hc, hk, q _ H ⟨S, .bl b⟩⟩
    · cases e
  · cases e
theorem adr_start {N : List Str} {a : Addr} {n : Nat} (hn : N.length = n + 1) : Sta K H [] [] (L2.start N [.ref a]) H (.fz (.adr a) :: List.replicate n .no) := by
  have len : (L2.start N [V.ref a]).length = n + 1 := by
    unfold L2.start
    simp
    omega
  have h0 : (L2.start N [V.ref a])[0]? = some (some (.ref a)) := by
    unfold L2.start
    simp
  refine ⟨by rw [len]; simp, fun i d h => ?_, fun i ds h => ?_, fun i j ds es p h => ?_, fun a o h => h, (fun p h => nomatch h), (fun j p h => nomatch h), NwOk.none fun i w h => ?_, (fun p xs h => nomatch h)⟩
  rotate_right
  · cases i with
    | zero => cases h
    | succ i =>
      rw [List.getElem?_cons_succ, List.getElem?_replicate] at h
      split at h <;> cases h
  · cases i with
    | zero =>
      cases h
      exact ⟨_, h0, .adr a⟩
    | succ i =>
      rw [List.getElem?_cons_succ, List.getElem?_replicate] at h
      split at h <;> cases h
  all_goals
    rcases h with h | h
    all_goals
      cases i with
      | zero => cases h
      | succ i =>
        rw [List.getElem?_cons_succ, List.getElem?_replicate] at h
        split at h <;> cases h
/-- what a def that is told of a refusal gives -/
theorem adr_body {N : List Str} {a : Addr} {n : Nat} {b : SFn} {t : TS} {d : D} {w : V} {e : Env} {Q : VK} (hn : N.length = n + 1) (hb : SndS K (fun _ _ _ => False) t b) (he : b (.fz (.adr a) :: List.replicate n .no) = some (.rt (.val d) e))
    (hw : ∀ v G, Dq K G v d → v = w) (q : ∀ H', Same H H' → Q w H') : t { nx := fun _ H' => Q .non H', rt := Q } (L2.start N [.ref a]) H := by
  refine hb H [] [] _ H _ _ (adr_start hn) he _ fun O' σ' H' v s P => ?_
  rw [hw v _ P.2]
  exact q H' P.1.base
theorem kit_yes {D0 C : Addr} (h1 : PySem.W.subIn K (.ref D0) (.ref C) = some true) (hd : PySem.W.hasDictIn K C = true) (ht : PySem.W.typeIn K (.ref C) = some (.type "type")) : PySem.W.kitOne K (.ref D0) (.ref C) = some true := by
  obtain ⟨cd, hc, _⟩ := PySem.W.any_some hd
  have e2 : ((PySem.W.clsIn K C).isSome && PySem.W.typeIn K (.ref C) == some (.type "type")) = true := by rw [hc, ht] <;> rfl
  show (if (Value.ref D0 == Value.ref C) = true then some true else (if ((PySem.W.clsIn K C).isSome && PySem.W.typeIn K (.ref C) == some (.type "type")) = true then PySem.W.subIn K (.ref D0) (.ref C) else none)) = some true
  rw [if_pos e2, h1]
  split <;> rfl
theorem dq_str {x : Str} : ∀ v G, Dq K G v (.str x) → v = .str x := fun v G h => by cases h; rfl
theorem dq_bl {b : Bool} : ∀ v G, Dq K G v (.bl b) → v = .bl b := fun v G h => by cases h; rfl

/-! ### x in xs, x not in xs; xs.count(x), xs.index(x) -/
theorem dp_lst {r : RV} {ds : List D} (P : Post K B O I σ H env v r) (e : deref env r = some (.lst ds)) (hs : shp (.lst ds) = true) : Dp K H v (.list (toPys ds)) := by
  have := Dq.py _ _ (P.read e) (SeqAt.canLay_of_shaped hs)
  simpa only [toPy] using this
theorem dp_any {r : RV} {d : D} (P : Post K B O I σ H env v r) (e : deref env r = some d) (hs : shp d = true) : Dp K H v (toPy d) := Dq.py _ _ (P.read e) (SeqAt.canLay_of_shaped hs)
def inD (x : D) (ds : List D) : Bool := ds.any fun z => eqD z x
theorem toPys_map : ∀ ds : List D, toPys ds = ds.map toPy
  | [] => rfl
  | d :: ds => by simp only [toPys, List.map_cons, toPys_map ds]
theorem inD_eq (x : D) (ds : List D) : ((toPys ds).any fun z => PyData.eqv z (toPy x)) = inD x ds := by
  rw [toPys_map, List.any_map]
  rfl
def gIn : G2
  | x, .lst ds => if shp x && shp (.lst ds) then some (.val (.bl (inD x ds))) else none
  | _, _ => none
def gNotIn : G2
  | x, .lst ds => if shp x && shp (.lst ds) then some (.val (.bl (!inD x ds))) else none
  | _, _ => none
theorem op2_in : Op2 K (rInD K) gIn := by
  intro B O I σ H env x y ra rb d e z P1 P2 e1 e2 ez Q q
  cases e with
  | lst ds =>
    unfold gIn at ez
    dsimp only at ez
    split at ez
    · rename_i h
      rw [Bool.and_eq_true] at h
      cases ez
      refine ⟨toPy d, toPys ds, dp_any P1 e1 h.1, dp_lst P2 e2 h.2, h.1, ?_, ?_⟩
      · have := h.2
        unfold shp at this
        simpa only [toPy] using this
      · rw [inD_eq]
        exact q _ H ⟨P1.sta, .bl _⟩
    · cases ez
  | _ => cases ez
theorem op2_notIn : Op2 K (rNotInD K) gNotIn := by
  intro B O I σ H env x y ra rb d e z P1 P2 e1 e2 ez Q q
  cases e with
  | lst ds =>
    unfold gNotIn at ez
    dsimp only at ez
    split at ez
    · rename_i h
      rw [Bool.and_eq_true] at h
      cases ez
      refine ⟨toPy d, toPys ds, dp_any P1 e1 h.1, dp_lst P2 e2 h.2, h.1, ?_, ?_⟩
      · have := h.2
        unfold shp at this
        simpa only [toPy] using this
      · rw [inD_eq]
        exact q _ H ⟨P1.sta, .bl _⟩
    · cases ez
  | _ => cases ez
/-- x.m(y), x a list, both stay -/
def isLst : D → Bool
  | .lst _ => true
  | _ => false
def fM1 (g : G2) (i : Nat) (fa : EF) : EF := fun env => (fVar i env).bind fun a => (deref a.2 a.1).bind fun w => if isLst w then (fa a.2).bind fun b => (deref b.2 a.1).bind fun x => (deref b.2 b.1).bind fun y => (g x y).bind fun z => some (z, b.2) else none
theorem snd_m1 {i : Nat} {r : V → List V → Hp → VK → Prop} {r2 : R2} {g : G2} (ho : Op2 K r2 g) (hr : ∀ x y H Q, r2 x y H Q → r x [y] H Q) (he : Snd K te fe) : Snd K (tBM K "list" r (tVar i) (tCons te tNil)) (fM1 g i fe) := by
  intro B O I σ H env rv env' S e Q q
  obtain ⟨⟨r1, env1⟩, e1, e⟩ := bnd e
  obtain ⟨w, ew, e⟩ := bnd e
  split at e
  · rename_i hw
    obtain ⟨⟨r2', env2⟩, e2, e⟩ := bnd e
    obtain ⟨x, ex, e⟩ := bnd e
    obtain ⟨y, ey, e⟩ := bnd e
    obtain ⟨z, ez, e⟩ := bnd e
    cases e
    have hf : Dv.frz r1 = r1 := by
      unfold fVar at e1
      split at e1 <;> cases e1 <;> rfl
    refine snd_var i B O I σ H env r1 env1 S e1 _ fun v H1 P1 => ?_
    have P1' := P1.frz
    have S1 := P1'.sta
    refine ⟨?_, ?_⟩
    · cases w with
      | lst ds =>
        obtain ⟨p, xs, rfl, h1, _⟩ := P1.items ew
        exact .inl ⟨rfl, xs, .inl (.inl h1)⟩
      | _ => cases hw
    · refine he _ O I σ H1 env1 r2' env2 S1.strong e2 _ fun u H2 P2 => ?_
      have P3 := P1'.later P2.sta
      rw [hf] at P3
      exact hr _ _ _ _ (ho B O I σ H2 env2 v u r1 r2' x y _ P3 (P2.weakN S1.base_keep) ex ey ez Q q)
  · cases e
/-- how often -/
def cntD (x : D) (ds : List D) : Nat := ds.countP fun z => eqD z x
def gCount : G2
  | .lst ds, x => if shp x && shp (.lst ds) then some (.val (.int (cntD x ds : Nat))) else none
  | _, _ => none
def rCount (K : PySem.W.Frag) : R2 := fun x y H Q => ∃ (a : Addr) (d : PyData) (ds : List PyData), x = V.ref a ∧ Dp K H (V.ref a) (.list ds) ∧ Dp K H y d ∧ SeqAt.shaped (.list ds) = true ∧ SeqAt.shaped d = true ∧ Q (.int ((ds.countP fun z => PyData.eqv z d : Nat) : Int)) H
theorem op2_count : Op2 K (rCount K) gCount := by
  intro B O I σ H env x y ra rb d e z P1 P2 e1 e2 ez Q q
  cases d with
  | lst ds =>
    unfold gCount at ez
    dsimp only at ez
    split at ez
    · rename_i h
      rw [Bool.and_eq_true] at h
      cases ez
      obtain ⟨p, xs, rfl, _⟩ := P1.items e1
      refine ⟨p, toPy e, toPys ds, rfl, dp_lst P1 e1 h.2, dp_any P2 e2 h.1, ?_, h.1, ?_⟩
      · have := h.2
        unfold shp at this
        simpa only [toPy] using this
      · have e : (toPys ds).countP (fun z => PyData.eqv z (toPy e)) = cntD e ds := by
          rw [toPys_map, List.countP_map]
          rfl
        rw [e]
        exact q _ H ⟨P1.sta, .int _⟩
    · cases ez
  | _ => cases ez
/-- the first place -/
def idxD (x : D) (ds : List D) : Option Nat := ds.findIdx? fun z => eqD z x
def gIndex : G2
  | .lst ds, x => if shp x && shp (.lst ds) then (idxD x ds).bind fun j => some (.val (.int (j : Nat))) else none
  | _, _ => none
def rIndexD2 (K : PySem.W.Frag) : R2 := fun x y H Q => rIndexD K x [y] H Q
theorem op2_index : Op2 K (rIndexD2 K) gIndex := by
  intro B O I σ H env x y ra rb d e z P1 P2 e1 e2 ez Q q
  cases d with
  | lst ds =>
    unfold gIndex at ez
    dsimp only at ez
    split at ez
    · rename_i h
      rw [Bool.and_eq_true] at h
      obtain ⟨j, ej, ez⟩ := bnd ez
      cases ez
      obtain ⟨p, xs, rfl, _⟩ := P1.items e1
      unfold idxD at ej
      rw [List.findIdx?_eq_some_iff_getElem] at ej
      obtain ⟨hj, h1, h2⟩ := ej
      refine ⟨p, y, toPy e, toPys ds, j, toPy ds[j], rfl, rfl, dp_lst P1 e1 h.2, dp_any P2 e2 h.1, ?_, h.1, ?_, h1, fun m z' hm hz => ?_, q _ H ⟨P1.sta, .int _⟩⟩
      · have := h.2
        unfold shp at this
        simpa only [toPy] using this
      · rw [toPys_map, List.getElem?_map, List.getElem?_eq_getElem hj]
        rfl
      · rw [toPys_map, List.getElem?_map, List.getElem?_eq_getElem (by omega)] at hz
        cases hz
        have := h2 m hm
        simpa [eqD] using this
    · cases ez
  | _ => cases ez
end
section
variable {X : Cx}
theorem mt_countD (hu : X.A.units + 65 < cLine) : MtR X "list.count" (fun x xs H Q => ∃ y, xs = [y] ∧ rCount X.K x y H Q) := by
  intro pins s σ H x xs v us Q I rx rxs h
  obtain ⟨y, rfl, a, d, ds, rfl, hl, hy, sl, sd, q⟩ := h
  cases rx
  cases rxs with
  | cons ry rt =>
    rename_i uy ut
    cases rt
    obtain ⟨bs, r1⟩ := Dp.reads I d y uy hy ry
    cases hl with
    | lst hs ha =>
      obtain ⟨its, rv, ⟨⟨cls, dd, data, sls⟩, n, ho, hc, hdn, hdt⟩, hlen⟩ := I.list hs
      simp only at hc hdt
      subst hc hdt
      obtain ⟨as, h4⟩ := Dp.readsAll I ds _ its ha rv
      have hxs : PyData.canLayAll0 ds = true := SeqAt.canLay_of_shaped sl
      have hmap : its.map (SeqAt.readOf s.heap) = ds := SeqAt.readsAll_map ds its as hxs h4
      refine call_meets PySem.F.slot_list_count ⟨_, ho, rfl⟩ PySem.F.entry_list_count (PySem.F.args_list_count_2 _ _)
        (SeqAt.list_countAt a its.toArray n dd sls uy (fun u => PyData.eqv (SeqAt.readOf s.heap u) d)) ⟨ho, SeqAt.items_eqAt (vs := its.toArray) (show ReadsAll s.heap its.toArray.toList ds as from h4) r1 hxs (SeqAt.canLay_of_shaped sd) (room_in_shaped sd hu), ?_⟩
      have ec : its.toArray.toList.countP (fun u => PyData.eqv (SeqAt.readOf s.heap u) d) = ds.countP fun z => PyData.eqv z d := by
        rw [← hmap, List.countP_map]
        rfl
      rw [ec]
      exact ⟨.int _, H, I.tok _, ⟨s.toks, rfl⟩, q⟩
end
end Dv

/-! # sets of tuples of ints, as many as there are: the table -/
namespace Big
open PySem PySem.Spec PyProof.Rows L2

/-! ### the round of 5 i + 1 goes through every power of two -/
def X5 : Nat → Nat
  | 0 => 0
  | n + 1 => 5 * X5 n + 1
theorem X5_add (a : Nat) : ∀ n, X5 (a + n) = 5 ^ n * X5 a + X5 n
  | 0 => by simp [X5]
  | n + 1 => by
    show 5 * X5 (a + n) + 1 = 5 ^ (n + 1) * X5 a + (5 * X5 n + 1)
    rw [X5_add a n, Nat.pow_succ, Nat.mul_add]
    have : 5 * (5 ^ n * X5 a) = 5 ^ n * 5 * X5 a := by rw [← Nat.mul_assoc, Nat.mul_comm 5]
    omega
theorem five4 : ∀ n, ∃ d, 5 ^ n = 4 * d + 1
  | 0 => ⟨0, rfl⟩
  | n + 1 => by
    obtain ⟨d, h⟩ := five4 n
    exact ⟨5 * d + 1, by rw [Nat.pow_succ, h]; omega⟩
theorem odd_mul (c d : Nat) : (2 * c + 1) * (2 * d + 1) = 2 * (2 * c * d + c + d) + 1 := by
  rw [Nat.mul_add, Nat.add_mul, Nat.mul_one]
  have : 2 * c * (2 * d) = 2 * (2 * c * d) := by rw [Nat.mul_left_comm]
  omega
theorem X5_two : ∀ k, ∃ c, X5 (2 ^ k) = 2 ^ k * (2 * c + 1)
  | 0 => ⟨0, rfl⟩
  | k + 1 => by
    obtain ⟨c, h⟩ := X5_two k
    obtain ⟨d, h5⟩ := five4 (2 ^ k)
    refine ⟨2 * c * d + c + d, ?_⟩
    rw [← odd_mul, Nat.pow_succ, Nat.mul_two, X5_add, h, h5]
    have e : (4 * d + 1) * (2 ^ k * (2 * c + 1)) + 2 ^ k * (2 * c + 1) = (2 ^ k * (2 * c + 1)) * (4 * d + 1 + 1) := by rw [Nat.mul_add (2 ^ k * (2 * c + 1)) (4 * d + 1) 1, Nat.mul_one, Nat.mul_comm (4 * d + 1)]
    rw [e, show 4 * d + 1 + 1 = 2 * (2 * d + 1) by omega, ← Nat.mul_two, Nat.mul_assoc, Nat.mul_assoc, Nat.mul_left_comm (2 * c + 1) 2]
theorem X5_onto : ∀ k j, j < 2 ^ k → ∃ n, n < 2 ^ k ∧ X5 n % 2 ^ k = j
  | 0, j, h => ⟨0, by decide, by simp at h; simp [h, X5]⟩
  | k + 1, j, h => by
    have hp : 0 < 2 ^ k := Nat.pow_pos (by decide)
    rw [Nat.pow_succ] at h ⊢
    obtain ⟨n, hn, e⟩ := X5_onto k (j % 2 ^ k) (Nat.mod_lt _ hp)
    obtain ⟨c, hc⟩ := X5_two k
    generalize hN : 2 ^ k = N at *
    have ex : ∀ y, y < N * 2 → y % N = j % N → y = j ∨ (y + N) % (N * 2) = j := fun y hy hm => by
      rcases Nat.lt_or_ge y N with y1 | y1 <;> rcases Nat.lt_or_ge j N with j1 | j1
      · rw [Nat.mod_eq_of_lt y1, Nat.mod_eq_of_lt j1] at hm
        exact .inl hm
      · rw [Nat.mod_eq_of_lt y1, Nat.mod_eq_sub_mod j1, Nat.mod_eq_of_lt (by omega)] at hm
        exact .inr (by rw [Nat.mod_eq_of_lt (by omega)]; omega)
      · rw [Nat.mod_eq_of_lt j1, Nat.mod_eq_sub_mod y1, Nat.mod_eq_of_lt (by omega)] at hm
        exact .inr (by rw [Nat.mod_eq_sub_mod (by omega), Nat.mod_eq_of_lt (by omega)]; omega)
      · rw [Nat.mod_eq_sub_mod y1, Nat.mod_eq_of_lt (by omega), Nat.mod_eq_sub_mod j1, Nat.mod_eq_of_lt (by omega)] at hm
        exact .inl (by omega)
    have hy : X5 n % (N * 2) < N * 2 := Nat.mod_lt _ (by omega)
    rcases ex (X5 n % (N * 2)) hy (by rw [Nat.mod_mul_right_mod]; exact e) with z | z
    · exact ⟨n, by omega, z⟩
    · refine ⟨N + n, by omega, ?_⟩
      obtain ⟨d, h5⟩ := five4 n
      have h5' : 5 ^ n = 2 * (2 * d) + 1 := by omega
      rw [X5_add, hc, h5', Nat.mul_left_comm, odd_mul, Nat.mul_add, Nat.mul_one]
      have e2 : N * (2 * (2 * (2 * d) * c + 2 * d + c)) + N + X5 n = (X5 n + N) + N * 2 * (2 * (2 * d) * c + 2 * d + c) := by
        rw [← Nat.mul_assoc N 2]
        omega
      rw [e2, Nat.add_mul_mod_self_left, ← z, Nat.mod_add_mod]
theorem lcg_X5 (m : Nat) : ∀ n, lcgN m n = X5 n % (m + 1)
  | 0 => rfl
  | n + 1 => by
    show (lcgN m n * 5 + 1) % (m + 1) = (5 * X5 n + 1) % (m + 1)
    rw [lcg_X5 m n, Nat.mul_comm 5, Nat.add_mod, Nat.mul_mod, Nat.mod_mod, ← Nat.mul_mod, ← Nat.add_mod]
/-- the masks that come -/
def MkOk (m : Nat) : Prop := ∃ k, m + 1 = 2 ^ k ∧ 3 ≤ k ∧ k ≤ 17
theorem MkOk.le {m : Nat} (h : MkOk m) : 7 ≤ m ∧ m ≤ 131071 := by
  obtain ⟨k, e, h1, h2⟩ := h
  have a := Nat.pow_le_pow_right (n := 2) (by decide) h1
  have b := Nat.pow_le_pow_right (n := 2) (by decide) h2
  omega
theorem MkOk.odd {m : Nat} (h : MkOk m) : m % 2 = 1 := by
  obtain ⟨k, e, h1, h2⟩ := h
  obtain ⟨j, rfl⟩ : ∃ j, k = j + 1 := ⟨k - 1, by omega⟩
  rw [Nat.pow_succ] at e
  omega
theorem mk_all {m : Nat} (hm : MkOk m) {j : Nat} (hj : j ≤ m) : ∃ b, b ≤ m ∧ lcgN m b = j := by
  obtain ⟨k, e, _, _⟩ := hm
  obtain ⟨n, hn, h⟩ := X5_onto k j (by omega)
  exact ⟨n, by omega, by rw [lcg_X5, e]; exact h⟩
theorem mk_round {m : Nat} (hm : MkOk m) (n : Nat) : lcgN m (m + 1 + n) = lcgN m n := by
  obtain ⟨k, e, _, _⟩ := hm
  obtain ⟨c, hc⟩ := X5_two k
  rw [lcg_X5, lcg_X5, e, X5_add, hc, Nat.mul_left_comm, Nat.add_comm, Nat.add_mul_mod_self_left]
theorem mk_any {m : Nat} (hm : MkOk m) {i j : Nat} (hi : i ≤ m) (hj : j ≤ m) : ∃ k, k ≤ m ∧ lcgI m i k = j := by
  obtain ⟨x, hx, rfl⟩ := mk_all hm hi
  obtain ⟨y, hy, rfl⟩ := mk_all hm hj
  rcases Nat.lt_or_ge y x with c | c
  · exact ⟨m + 1 + y - x, by omega, by rw [lcgN_add, show x + (m + 1 + y - x) = m + 1 + y by omega, mk_round hm]⟩
  · exact ⟨y - x, by omega, by rw [lcgN_add, show x + (y - x) = y by omega]⟩
theorem mk_run {m : Nat} (hm : MkOk m) (h : Int) {j : Nat} (hj : j ≤ m) : ∃ n, n ≤ m + 12 ∧ runI m (SetTable.bits h) n = j := by
  obtain ⟨k, hk, e⟩ := mk_any hm (runI_le m (SetTable.bits h) 12) hj
  exact ⟨12 + k, by omega, by rw [runI_tail (bits_lt h), e]⟩
theorem mk_way {m : Nat} (hm : MkOk m) (h : Int) {j : Nat} (hj : j ≤ m) : ∃ k, k < 10 * SetTable.turns m ∧ way m h k = j := by
  obtain ⟨n, hn, e⟩ := mk_run hm h hj
  obtain ⟨k, hk, e2⟩ := run_nth m (SetTable.bits h) n
  exact ⟨k, by unfold SetTable.turns; omega, by unfold way; rw [e2]; exact e⟩
theorem in_table {m : Nat} (h : Int) (k : Nat) : way m h k ≤ m := by
  have hi : SetTable.bits h % (m + 1) ≤ m := Nat.lt_succ_iff.mp (Nat.mod_lt _ (Nat.succ_pos m))
  have r := runEnd_bd hi
  have := nth_in (m := m) k (runAt m (SetTable.bits h % (m + 1)) (SetTable.bits h)) (by
    unfold runAt
    dsimp only
    omega)
  unfold way
  omega

theorem nat_sub : ∀ {l m : List Nat}, l.Nodup → (∀ x, x ∈ l → x ∈ m) → l.length ≤ m.length
  | [], m, _, _ => Nat.zero_le _
  | x :: l, m, h, hm => by
    obtain ⟨h1, h2⟩ := List.nodup_cons.mp h
    have := nat_sub (l := l) (m := m.erase x) h2 fun y hy => (List.mem_erase_of_ne (fun z : y = x => h1 (by rw [← z]; exact hy))).mpr (hm y (List.mem_cons_of_mem _ hy))
    rw [List.length_erase_of_mem (hm x List.mem_cons_self)] at this
    have := List.length_pos_of_mem (hm x List.mem_cons_self)
    simp only [List.length_cons]
    omega
theorem lcg_inj {m i a b : Nat} (hm : MkOk m) (hi : i ≤ m) (hab : a < b) (hb : b ≤ m) : lcgI m i a ≠ lcgI m i b := fun z => by
  have ln : (((List.range (m + 1)).filter fun x => x != b).map (lcgI m i)).length < m + 1 := by
    rw [List.length_map]
    have h1 : ((List.range (m + 1)).filter fun x => x != b).length < (List.range (m + 1)).length := by
      refine Nat.lt_of_le_of_ne (List.length_filter_le _ _) fun c => ?_
      have := (List.length_filter_eq_length_iff.mp c) b (List.mem_range.mpr (by omega))
      simp at this
    rw [List.length_range] at h1
    exact h1
  obtain ⟨j, j1, j2⟩ := st_missing _ _ ln
  obtain ⟨k, k1, k2⟩ := mk_any hm hi (Nat.lt_succ_iff.mp j1)
  refine j2 (List.mem_map.mpr ?_)
  by_cases c : k = b
  · exact ⟨a, List.mem_filter.mpr ⟨List.mem_range.mpr (by omega), by simp; omega⟩, by rw [z, ← c]; exact k2⟩
  · exact ⟨k, List.mem_filter.mpr ⟨List.mem_range.mpr (by omega), by simpa using c⟩, k2⟩
/-! ### the table: what stands in it is met on its way -/
structure Tab (t : SetTable) (hs : List Int) : Prop where
  up : Ris t.place.toList
  nod : t.dummies = #[]
  len : t.place.toList.length = hs.length
  msk : MkOk t.mask
  low : ∀ x, x ∈ t.place.toList → x ≤ t.mask
  met : ∀ (i : Nat) (h : Int) (j : Nat), hs[i]? = some h → t.place.toList[i]? = some j → ∃ k, way t.mask h k = j ∧ ∀ q, q < k → way t.mask h q ∈ t.place.toList
section
variable {t : SetTable} {hs : List Int}
/-- the way meets an empty slot, soon -/
theorem Tab.hole (T : Tab t hs) (hl : hs.length ≤ t.mask) (h : Int) : ∃ K, K < 10 * SetTable.turns t.mask ∧ K < 10 * (hs.length + 13) ∧ way t.mask h K ∉ t.place.toList ∧ ∀ q, q < K → way t.mask h q ∈ t.place.toList := by
  have e0 : runI t.mask (SetTable.bits h) 12 ≤ t.mask := runI_le t.mask (SetTable.bits h) 12
  obtain ⟨k, k1, k2⟩ : ∃ k, k ≤ hs.length ∧ lcgI t.mask (runI t.mask (SetTable.bits h) 12) k ∉ t.place.toList := by
    refine Classical.byContradiction fun c => ?_
    have all : ∀ k, k ≤ hs.length → lcgI t.mask (runI t.mask (SetTable.bits h) 12) k ∈ t.place.toList := fun k hk => Classical.byContradiction fun z => c ⟨k, hk, z⟩
    have nd : ((List.range (hs.length + 1)).map (lcgI t.mask (runI t.mask (SetTable.bits h) 12))).Nodup := by
      refine List.pairwise_map.mpr (List.Pairwise.imp_of_mem (fun {x y} hx hy hxy => ?_) (List.pairwise_lt_range (n := hs.length + 1)))
      have := List.mem_range.mp hy
      exact lcg_inj T.msk e0 hxy (by omega)
    have := nat_sub nd (m := t.place.toList) fun x hx => by
      obtain ⟨k, hk, rfl⟩ := List.mem_map.mp hx
      exact all k (by have := List.mem_range.mp hk; omega)
    rw [List.length_map, List.length_range, T.len] at this
    omega
  obtain ⟨k', hk', e2⟩ := run_nth t.mask (SetTable.bits h) (12 + k)
  have at_k : way t.mask h k' ∉ t.place.toList := by
    unfold way
    rw [e2]
    show runI t.mask (SetTable.bits h) (12 + k) ∉ _
    rw [runI_tail (bits_lt h)]
    exact k2
  obtain ⟨K, h1, h2, h3⟩ := st_least (p := fun q => way t.mask h q ∉ t.place.toList) k' at_k
  exact ⟨K, by unfold SetTable.turns; omega, by omega, h2, fun q hq => Classical.byContradiction fun z => h3 q hq z⟩
/-- what has this hash stands ahead of that slot -/
theorem Tab.ahead (T : Tab t hs) {h : Int} {K i j : Nat} (hK : way t.mask h K ∉ t.place.toList) (hi : hs[i]? = some h) (hj : t.place.toList[i]? = some j) : ∃ k, k < K ∧ way t.mask h k = j := by
  obtain ⟨k, e, hb⟩ := T.met i h j hi hj
  refine ⟨k, Nat.lt_of_not_le fun c => ?_, e⟩
  rcases Nat.lt_or_eq_of_le c with c | c
  · exact hK (hb K c)
  · exact hK (by rw [c, e]; exact List.mem_of_getElem? hj)
/-- a slot more -/
theorem Tab.add (T : Tab t hs) {h : Int} {K p : Nat} (hK : way t.mask h K ∉ t.place.toList) (hb : ∀ q, q < K → way t.mask h q ∈ t.place.toList) (hp : SetTable.below t.place (way t.mask h K) = p) :
    p ≤ hs.length ∧ Tab (t.put (way t.mask h K)).1 (hs.take p ++ h :: hs.drop p) := by
  have cut := below_cut T.up (way t.mask h K)
  have pl : p ≤ t.place.toList.length := by rw [← hp, Array.length_toList]; exact cut.1
  have ph : p ≤ hs.length := by rw [← T.len]; exact pl
  have new : t.place[SetTable.below t.place (way t.mask h K)]? ≠ some (way t.mask h K) := fun e => hK (List.mem_of_getElem? (by rw [Array.getElem?_toList]; exact e))
  have e1 : (t.put (way t.mask h K)).1.place.toList = t.place.toList.take p ++ way t.mask h K :: t.place.toList.drop p := by rw [put_place, hp]
  have old : ∀ x, x ∈ t.place.toList → x ∈ (t.put (way t.mask h K)).1.place.toList := fun x hx => by
    rw [e1]
    exact mem_ins.mpr (.inr hx)
  refine ⟨ph, ris_insert T.up new, put_dm T.nod _, ?_, T.msk, fun x hx => ?_, fun i g j h1 h2 => ?_⟩
  · rw [e1, len_ins _ pl, len_ins _ ph, T.len]
  · rw [e1] at hx
    rcases mem_ins.mp hx with z | z
    · rw [z]
      exact in_table h K
    · exact T.low x z
  · rw [tins_get _ ph] at h1
    rw [e1, tins_get _ pl] at h2
    have go : ∀ i, hs[i]? = some g → t.place.toList[i]? = some j → ∃ k, way t.mask g k = j ∧ ∀ q, q < k → way t.mask g q ∈ (t.put (way t.mask h K)).1.place.toList := fun i a b => by
      obtain ⟨k, e, z⟩ := T.met i g j a b
      exact ⟨k, e, fun q hq => old _ (z q hq)⟩
    rcases Nat.lt_trichotomy i p with c | c | c
    · rw [if_pos c] at h1 h2
      exact go i h1 h2
    · rw [if_neg (by omega), if_pos c] at h1 h2
      cases h1
      cases h2
      exact ⟨K, rfl, fun q hq => old _ (hb q hq)⟩
    · rw [if_neg (by omega), if_neg (by omega)] at h1 h2
      exact go (i - 1) h1 h2
theorem put_fill (T : Tab t hs) {h : Int} {K : Nat} (hK : way t.mask h K ∉ t.place.toList) : (t.put (way t.mask h K)).1.fill = hs.length + 1 := by
  have pl : SetTable.below t.place (way t.mask h K) ≤ t.place.toList.length := by rw [Array.length_toList]; exact (below_cut T.up _).1
  have e := len_ins t.place.toList pl (way t.mask h K)
  rw [← put_place, T.len, Array.length_toList] at e
  unfold SetTable.fill
  rw [e, put_dm T.nod]
  rfl
end

/-! ### laid anew -/
theorem seat {m : Nat} (hm : MkOk m) (owner : Array (Option Nat)) (h : Int) {j : Nat} (hj : j ≤ m) (hf : oAt owner j = none) :
    ∃ K, SetTable.layClean.free m owner (SetTable.turns m) (SetTable.bits h % (m + 1)) (SetTable.bits h) = some (way m h K) ∧ oAt owner (way m h K) = none ∧ ∀ q, q < K → oAt owner (way m h q) ≠ none := by
  obtain ⟨n, n1, n2⟩ := mk_run hm h hj
  have at_j : way m h (off m (SetTable.bits h % (m + 1)) (SetTable.bits h) n) = j := by
    unfold way
    rw [nth_off, itL_run]
    exact n2
  obtain ⟨K, k1, k2, k3⟩ := st_least (p := fun q => oAt owner (way m h q) = none) _ (show oAt owner (way m h (off m (SetTable.bits h % (m + 1)) (SetTable.bits h) n)) = none by rw [at_j]; exact hf)
  refine ⟨K, free_spec m owner _ n _ _ K (by unfold SetTable.turns; omega) k1 (fun q hq => ?_) (Option.isNone_iff_eq_none.mpr k2), k2, k3⟩
  exact Bool.eq_false_iff.mpr fun z => k3 q hq (Option.isNone_iff_eq_none.mp z)
theorem seated {m : Nat} (hm : MkOk m) {done : List Int} {owner : Array (Option Nat)} (W : Own m done owner) (hl : done.length ≤ m) (h : Int) :
    ∃ j, SetTable.layClean.free m owner (SetTable.turns m) (SetTable.bits h % (m + 1)) (SetTable.bits h) = some j ∧ Own m (done ++ [h]) (owner.setIfInBounds j (some done.length)) := by
  obtain ⟨ps, l1, l2⟩ := W.ps
  obtain ⟨j0, a1, a2⟩ := st_missing ps (m + 1) (by omega)
  have free0 : oAt owner j0 = none := Classical.byContradiction fun z => a2 (l2 j0 (by omega) z)
  obtain ⟨K, e1, e2, e3⟩ := seat hm owner h (Nat.lt_succ_iff.mp a1) free0
  generalize hw : way m h K = j at e1 e2
  have jm : j ≤ m := hw ▸ in_table h K
  have here := oAt_set_self (some done.length) (show j < owner.size by rw [W.sz]; omega)
  have other : ∀ i, i ≠ j → oAt (owner.setIfInBounds j (some done.length)) i = oAt owner i := fun i hi => oAt_set_ne _ hi
  have still : ∀ i, oAt owner i ≠ none → oAt (owner.setIfInBounds j (some done.length)) i ≠ none := fun i hi => by
    by_cases c : i = j
    · rw [c, here]
      simp
    · rw [other i c]
      exact hi
  refine ⟨j, e1, by rw [Array.size_setIfInBounds, W.sz], fun i k hi e => ?_, fun k hk => ?_, ⟨j :: ps, by simp [l1], fun i hi e => ?_⟩⟩
  · by_cases c : i = j
    · rw [c, here] at e
      cases e
      exact ⟨h, K, by simp, by rw [hw, c], fun q hq => still _ (e3 q hq)⟩
    · rw [other i c] at e
      obtain ⟨g, G, b1, b2, b3⟩ := W.at_ i k hi e
      exact ⟨g, G, by rw [List.getElem?_append_left (List.getElem?_eq_some_iff.mp b1).1]; exact b1, b2, fun q hq => still _ (b3 q hq)⟩
  · by_cases c : k = done.length
    · exact ⟨j, jm, by rw [here, c]⟩
    · obtain ⟨i, b1, b2⟩ := W.all k (by simp at hk; omega)
      exact ⟨i, b1, by rw [other i (fun z => by rw [z, e2] at b2; cases b2)]; exact b2⟩
  · by_cases c : i = j
    · exact c ▸ List.mem_cons_self
    · rw [other i c] at e
      exact List.mem_cons_of_mem _ (l2 i hi e)
theorem seats {m : Nat} (hm : MkOk m) : ∀ (rest done : List Int) (owner : Array (Option Nat)), Own m done owner → done.length + rest.length ≤ m →
    ∃ o2, rest.foldl (stepF m) (some (owner, done.length)) = some (o2, done.length + rest.length) ∧ Own m (done ++ rest) o2
  | [], done, owner, W, _ => ⟨owner, rfl, by simpa using W⟩
  | h :: rest, done, owner, W, hl => by
    simp only [List.length_cons] at hl
    obtain ⟨j, e, W1⟩ := seated hm W (by omega) h
    obtain ⟨o2, f, W2⟩ := seats hm rest (done ++ [h]) _ W1 (by simp; omega)
    refine ⟨o2, ?_, by simpa using W2⟩
    rw [List.foldl_cons, stepF_some e]
    simp only [List.length_append, List.length_cons, List.length_nil] at f
    simp only [List.length_cons]
    rw [f]
    congr 2
    omega
theorem laid {m : Nat} (hm : MkOk m) {hs : Array Int} (hn : hs.size ≤ m) : ∃ owner, SetTable.layClean m hs = some owner ∧ Own m hs.toList owner := by
  obtain ⟨o, f, W⟩ := seats hm hs.toList [] _ (Own.init m) (by simpa using hn)
  exact ⟨o, by rw [layClean_eq]; simp only [List.length_nil] at f; rw [f]; rfl, W⟩
theorem relaid {t : SetTable} {hs : Array Int} {wanted M : Nat} (hw : SetTable.sizeAbove wanted - 1 = M) (hM : MkOk M) (hn : hs.size ≤ M) :
    ∃ t' order, t.relaid hs wanted = some (t', order) ∧ order.toList.Perm (List.range hs.size) ∧ Tab t' (order.toList.map fun i => hs.getD i 0) ∧ t'.mask = M ∧ t'.led = t.led ∧ t'.plain = t.plain := by
  obtain ⟨owner, e, W⟩ := laid hM hn
  subst hw
  have hr := relaid_eq t hs wanted
  rw [e] at hr
  generalize SetTable.sizeAbove wanted - 1 = M at *
  have ris := ris_live (fun j => owner.getD j none) (List.range (M + 1)) (by
    unfold Ris
    first | exact List.pairwise_lt_range | exact List.pairwise_lt_range _)
  have r1 : Ris ((liveOf M owner).map (·.1)) := ris.1
  have once : ((liveOf M owner).map (·.1)).Nodup := r1.imp fun h => Nat.ne_of_lt h
  have seatOf : ∀ k, k < hs.size → k ∈ (liveOf M owner).map (·.2) := fun k hk => by
    obtain ⟨j, b1, b2⟩ := W.all k (by simpa using hk)
    exact List.mem_map.mpr ⟨(j, k), (mem_live W.sz).mpr ⟨b1, b2⟩, rfl⟩
  have many : (liveOf M owner).length = hs.size := by
    obtain ⟨ps, l1, l2⟩ := W.ps
    have a := nat_nodup_len _ ps once fun x hx => by
      obtain ⟨⟨y, k⟩, hq, rfl⟩ := List.mem_map.mp hx
      have := (mem_live W.sz).mp hq
      exact l2 y this.1 (by rw [this.2]; simp)
    have b := nat_nodup_len (List.range hs.size) ((liveOf M owner).map (·.2)) List.nodup_range fun k hk => seatOf k (List.mem_range.mp hk)
    simp at a b l1
    omega
  refine ⟨_, _, hr, perm_range _ _ (by simpa using many) (fun k hk => by simpa using seatOf k hk), ⟨r1, rfl, by simp [tabOf], hM, fun x hx => ?_, fun i h j h1 h2 => ?_⟩, rfl, rfl, rfl⟩
  · have hx : x ∈ (liveOf M owner).map (·.1) := hx
    obtain ⟨⟨y, k⟩, hq, rfl⟩ := List.mem_map.mp hx
    exact ((mem_live W.sz).mp hq).1
  · have h1 : (((liveOf M owner).map (·.2)).map fun i => hs.getD i 0)[i]? = some h := h1
    have h2 : ((liveOf M owner).map (·.1))[i]? = some j := h2
    rw [List.map_map, List.getElem?_map] at h1
    rw [List.getElem?_map] at h2
    obtain ⟨⟨y, k⟩, hq, rfl⟩ := Option.map_eq_some_iff.mp h2
    rw [hq] at h1
    have h1 : hs.getD k 0 = h := Option.some.inj h1
    obtain ⟨b1, b2⟩ := (mem_live W.sz).mp (List.mem_of_getElem? hq)
    obtain ⟨g, K, c1, c2, c3⟩ := W.at_ y k b1 b2
    have eg : g = h := by
      rw [← h1, Array.getD_eq_getD_getElem?, ← Array.getElem?_toList, c1]
      rfl
    subst eg
    refine ⟨K, c2, fun q hq => ?_⟩
    show way M g q ∈ (liveOf M owner).map (·.1)
    cases z : oAt owner (way M g q) with
    | none => exact absurd z (c3 q hq)
    | some k2 => exact List.mem_map.mpr ⟨(way M g q, k2), (mem_live W.sz).mpr ⟨in_table g q, z⟩, rfl⟩
end Big

/-! # sets of tuples of ints, as many as there are: the search, what is put in -/
namespace Big
open PySem PySem.Spec PyProof.Rows L2

section
variable {P : Program} {w : World} {A : Around} {E : Value → Shared → Prop} {s : Shared} {a : Addr} {L : List (Addr × List Int)} {es : Array (Int × Value)} {ep : Nat} {t : SetTable}
abbrev hsh (P : Program) (w : World) (L : List (Addr × List Int)) : List Int := L.map fun p => thash P w p.2
/-- the set at a has the tuples L -/
structure SetB (P : Program) (w : World) (h : Heap) (a : Addr) (L : List (Addr × List Int)) (es : Array (Int × Value)) (ep : Nat) (t : SetTable) : Prop where
  stands : ∃ o, h.get? a = some o ∧ o.ExactSet ∧ o.data = .set es ep t
  ent : es.toList = rowsOf P w L
  tb : Tab t (hsh P w L)
  one : (L.map (·.2)).Nodup
  tp : ∀ p, p ∈ L → IsT P w h p.2 p.1
  pln : t.plain = true
  ld : w.params.followText "set-order" = true ∨ t.led = true
  rm : L.length * 5 < t.mask * 3
theorem ent_len (h : es.toList = rowsOf P w L) : es.size = L.length := by
  have := congrArg List.length h
  simpa [rowsOf] using this
theorem ent_at (h : es.toList = rowsOf P w L) {i : Nat} {p : Addr × List Int} (hp : L[i]? = some p) : es[i]? = some (thash P w p.2, Value.ref p.1) := by
  rw [← Array.getElem?_toList, h]
  simp [rowsOf, hp]
theorem fits_of (h1 : t.dummies = #[]) (h2 : t.place.toList.length = L.length) (h3 : es.size = L.length) (h4 : L.length ≤ t.mask) : t.fits es.size = true := by
  rw [Array.length_toList] at h2
  simp [SetTable.fits, SetTable.fill, h1, h2, h3, h4]
theorem SetB.fits (R : SetB P w s.heap a L es ep t) : t.fits es.size = true := by
  have h2 := R.tb.len
  rw [List.length_map] at h2
  exact fits_of R.tb.nod h2 (ent_len R.ent) (by have := R.rm; omega)
/-- the c-th step of the way of a hash -/
abbrev stp (t : SetTable) (g : Int) (c : Nat) : SetTable.Probe := nth t.mask (runAt t.mask (SetTable.bits g % (t.mask + 1)) (SetTable.bits g)) c
theorem stp_more (t : SetTable) (g : Int) (c q : Nat) : nth t.mask (stp t g c) q = stp t g (c + q) := (nth_add t.mask c _ q).symm
theorem stp_dummy (t : SetTable) (g : Int) (c : Nat) : (stp t g c).dummy = none := by
  unfold stp
  induction c with
  | zero => rfl
  | succ c ih =>
    rw [nth_succ]
    unfold adv
    split <;> exact ih
/-- the search, from the c-th step on -/
theorem look_from (R : SetB P w s.heap a L es ep t) {x : Addr} {k : List Int} {g : Int} (hg : g = thash P w k) (hx : IsT P w s.heap k x) (hu : A.units < cLine) {K : Nat} (hf : K < 10 * SetTable.turns t.mask)
    (hK : way t.mask g K ∉ t.place.toList) (hB : ∀ c, c < K → way t.mask g c ∈ t.place.toList) {Q : SetFound → Shared → Prop} (yes : k ∈ L.map (·.2) → Q (.there none) s) (no : k ∉ L.map (·.2) → Q (.free (way t.mask g K) false) s) :
    ∀ (f c : Nat) (st : Option SetTable.Probe), st.getD (t.probeStart g) = stp t g c → c ≤ K → K - c < f →
      (∀ (i : Nat) (p : Addr × List Int), L[i]? = some p → p.2 = k → ∃ c', c ≤ c' ∧ c' < K ∧ t.place.toList[i]? = some (way t.mask g c')) →
      wpAny (model P w) A (setSearchFrom a (.ref x) g true f st) Q E s := by
  obtain ⟨o, ho, _, hd⟩ := R.stands
  intro f
  induction f with
  | zero => intro c st _ _ h _; omega
  | succ f ih =>
    intro c st hst hc hfu left
    have hsh : ∀ (i : Nat) (p : Addr × List Int), L[i]? = some p → (es[i]?.map (·.1)).getD 0 = thash P w p.2 := fun i p hp => by
      rw [ent_at R.ent hp]
      rfl
    rw [setSearchFrom_succ]
    refine wpAny_bind (wpAny_setState_of ho hd R.fits ?_)
    dsimp only
    refine wp_if_neg (show ¬ t.gaveWay = true by unfold SetTable.gaveWay; rw [R.tb.msk.odd]; decide) ?_
    try refine wpAny_bind (wpAny_pure ?_)
    have met := go_spec t R.tb.up R.tb.nod (fun i => (es[i]?.map (·.1)).getD 0) g (10 * SetTable.turns t.mask) (K - c) (stp t g c) (stp_dummy t g c) (by omega) (fun q hq => by rw [stp_more]; exact hB (c + q) (by omega)) (by rw [stp_more, Nat.add_sub_cancel' hc]; exact hK)
    have pr : t.probe (fun i => (es[i]?.map (·.1)).getD 0) g (st.getD (t.probeStart g)) = SetTable.probe.go t (fun i => (es[i]?.map (·.1)).getD 0) g (10 * SetTable.turns t.mask) (stp t g c) := by rw [hst]; rfl
    simp only [stp_more] at met
    rcases met with ⟨q, i, hq, hi, hh, fresh, e⟩ | ⟨fresh, e⟩
    · rw [pr, e]
      dsimp only
      have il : i < L.length := by
        have := (List.getElem?_eq_some_iff.mp hi).1
        rw [R.tb.len, List.length_map] at this
        exact this
      obtain ⟨p, hp⟩ : ∃ p, L[i]? = some p := ⟨_, List.getElem?_eq_getElem il⟩
      have pm : p ∈ L := List.mem_of_getElem? hp
      have live : t.slot (way t.mask g (c + q)) = .live i := slot_live R.tb.up hi
      have go : wpAny (model P w) A (searchRest a (.ref x) g true f es t (stp t g (c + q)).j i (stp t g (c + (q + 1)))) Q E s := by
        unfold searchRest
        rw [ent_at R.ent hp]
        dsimp only
        refine wpAny_bind (wpAny_holding (wpAny_eqBool_tuple hu (R.tp p pm) hx (wpAny_bind (wpAny_setState_of ho hd R.fits ?_))))
        dsimp only
        by_cases ek : p.2 = k
        · exact wp_if_pos (by simp [ek]) (wpAny_pure (yes (List.mem_map.mpr ⟨p, pm, ek⟩)))
        · refine wp_if_neg (by simp [ek]) ?_
          try refine wpAny_bind (wpAny_pure ?_)
          rw [sameMem]
          dsimp only
          have live2 : t.slot (stp t g (c + q)).j = .live i := live
          simp only [if_true, live2, ent_at R.ent hp]
          refine wpAny_bind (wpAny_isSame_ref_self (wpAny_bind (wpAny_pure ?_)))
          simp only [if_true]
          refine wp_if_neg (by simp [ek]) (ih (c + (q + 1)) _ rfl (by omega) (by omega) fun i0 p0 h0 k0 => ?_)
          obtain ⟨c', l1, l2, l3⟩ := left i0 p0 h0 k0
          refine ⟨c', Nat.le_of_not_lt fun z => ?_, l2, l3⟩
          rcases Nat.lt_or_eq_of_le (show c' ≤ c + q by omega) with z | z
          · refine fresh (c' - c) i0 (by omega) (by rw [Nat.add_sub_cancel' l1]; exact l3) ?_
            rw [hsh i0 p0 h0, k0, hg]
          · rw [z] at l3
            have l4 := slot_live R.tb.up l3
            rw [live] at l4
            cases l4
            rw [hp] at h0
            cases h0
            exact ek k0
      by_cases led : t.led = true
      · refine wp_if_neg (by simp [led]) ?_
        try refine wpAny_bind (wpAny_pure ?_)
        exact go
      · refine wp_if_pos (by simp [led]) (wpAny_bind (seen_tup hx (fun y hy => ?_) ?_))
        · obtain ⟨e, he, rfl⟩ := List.mem_map.mp hy
          have he2 : e ∈ es.toList := by
            have : e ∈ es ∧ e.1 = g := by simpa using he
            simpa using this.1
          rw [R.ent] at he2
          obtain ⟨p2, hp2, rfl⟩ := List.mem_map.mp he2
          exact ⟨p2.2, p2.1, rfl, R.tp p2 hp2⟩
        · refine wp_if_neg (by decide) ?_
          try refine wpAny_bind (wpAny_pure ?_)
          exact go
    · rw [pr, e]
      dsimp only
      have eK : (stp t g (c + (K - c))).j = way t.mask g K := by rw [Nat.add_sub_cancel' hc]
      rw [eK]
      refine wpAny_pure (no fun hm => ?_)
      obtain ⟨p0, m0, k0⟩ := List.mem_map.mp hm
      obtain ⟨i0, l0, e0⟩ := List.getElem_of_mem m0
      have h0 : L[i0]? = some p0 := by rw [List.getElem?_eq_getElem l0, e0]
      obtain ⟨c', l1, l2, l3⟩ := left i0 p0 h0 k0
      refine fresh (c' - c) i0 (by omega) (by rw [Nat.add_sub_cancel' l1]; exact l3) ?_
      rw [hsh i0 p0 h0, k0, hg]
theorem look (R : SetB P w s.heap a L es ep t) (ml : L.length ≤ 9900) {x : Addr} {k : List Int} (hx : IsT P w s.heap k x) (hu : A.units < cLine) {Q : SetFound → Shared → Prop} (yes : k ∈ L.map (·.2) → Q (.there none) s)
    (no : ∀ K, k ∉ L.map (·.2) → way t.mask (thash P w k) K ∉ t.place.toList → (∀ c, c < K → way t.mask (thash P w k) c ∈ t.place.toList) → Q (.free (way t.mask (thash P w k) K) false) s) :
    wpAny (model P w) A (setSearch a (.ref x) (thash P w k) true) Q E s := by
  obtain ⟨K, b, b2, hK, hB⟩ := R.tb.hole (by have := R.rm; rw [List.length_map]; omega) (thash P w k)
  have big := R.tb.msk.le
  unfold setSearch
  refine look_from R rfl hx hu b hK hB yes (fun z => no K z hK hB) 100000 0 none rfl (Nat.zero_le _) (by rw [List.length_map] at b2; omega) fun i p hp hk => ?_
  have hi : (hsh P w L)[i]? = some (thash P w k) := by simp [hp, hk]
  have il : i < t.place.toList.length := by
    rw [R.tb.len, List.length_map]
    exact (List.getElem?_eq_some_iff.mp hp).1
  obtain ⟨c, c1, c2⟩ := R.tb.ahead hK hi (List.getElem?_eq_getElem il)
  exact ⟨c, Nat.zero_le _, c1, by rw [List.getElem?_eq_getElem il, c2]⟩
/-! ### how large the next table is -/
theorem size_go (n : Nat) : ∀ (f j : Nat), n < 2 ^ (j + f) → ∃ k, j ≤ k ∧ SetTable.sizeAbove.go n f (2 ^ j) = 2 ^ k ∧ n < 2 ^ k ∧ (k = j ∨ 2 ^ k ≤ 2 * n)
  | 0, j, h => ⟨j, Nat.le_refl _, rfl, h, .inl rfl⟩
  | f + 1, j, h => by
    unfold SetTable.sizeAbove.go
    by_cases c : 2 ^ j ≤ n
    · rw [if_pos c, ← Nat.pow_succ]
      obtain ⟨k, h1, h2, h3, h4⟩ := size_go n f (j + 1) (by rw [show j + 1 + f = j + (f + 1) by omega]; exact h)
      refine ⟨k, by omega, h2, h3, .inr ?_⟩
      rcases h4 with rfl | h4
      · rw [Nat.pow_succ]
        omega
      · exact h4
    · rw [if_neg c]
      exact ⟨j, Nat.le_refl _, rfl, by omega, .inl rfl⟩
theorem size_next {m n : Nat} (hm : MkOk m) (h1 : n * 5 < m * 3) (h2 : (n + 1) * 5 ≥ m * 3) (h3 : n + 1 ≤ 20000) : ∃ M, SetTable.sizeAbove (SetTable.grown (n + 1)) = M + 1 ∧ MkOk M ∧ (n + 1) * 5 < M * 3 := by
  obtain ⟨j, e, j1, j2⟩ := hm
  have hj : j ≤ 15 := by
    apply Classical.byContradiction
    intro c
    have := Nat.pow_le_pow_right (n := 2) (by decide) (show 16 ≤ j by omega)
    omega
  have big := Nat.pow_le_pow_right (n := 2) (by decide) j1
  have g : SetTable.grown (n + 1) = (n + 1) * 4 := by unfold SetTable.grown; rw [if_neg (by omega)]
  obtain ⟨k, k1, k2, k3, k4⟩ := size_go ((n + 1) * 4) 64 3 (Nat.lt_of_lt_of_le (show (n + 1) * 4 < 2 ^ 17 by omega) (Nat.pow_le_pow_right (by decide) (by decide)))
  have ek : k = j + 2 := by
    have a : 2 ^ (j + 2) = 2 ^ j * 4 := by rw [Nat.pow_add]
    have b : 2 ^ (j + 1) = 2 ^ j * 2 := by rw [Nat.pow_succ]
    rcases Nat.lt_trichotomy k (j + 2) with c | c | c
    · have := Nat.pow_le_pow_right (n := 2) (by decide) (show k ≤ j + 1 by omega)
      omega
    · exact c
    · have q := Nat.pow_le_pow_right (n := 2) (by decide) (show j + 3 ≤ k by omega)
      have b3 : 2 ^ (j + 3) = 2 ^ j * 8 := by rw [Nat.pow_add]
      rcases k4 with rfl | k4 <;> omega
  have a : 2 ^ (j + 2) = 2 ^ j * 4 := by rw [Nat.pow_add]
  refine ⟨2 ^ k - 1, ?_, ⟨k, by omega, by omega, by omega⟩, by rw [ek]; omega⟩
  rw [g]
  show SetTable.sizeAbove.go ((n + 1) * 4) 64 8 = _
  have : SetTable.sizeAbove.go ((n + 1) * 4) 64 (2 ^ 3) = 2 ^ k := k2
  rw [show (8 : Nat) = 2 ^ 3 from rfl, this]
  omega
end
end Big

/-! # sets of tuples of ints, as many as there are: what is put in, set(xs), sorted(set) -/
namespace Big
open PySem PySem.Spec PyProof.Rows L2
/-- so many at most -/
abbrev mostB : Nat := 9900
section
variable {P : Program} {w : World} {A : Around} {E : Value → Shared → Prop} {s : Shared} {a : Addr} {L : List (Addr × List Int)} {es : Array (Int × Value)} {ep : Nat} {t : SetTable}
/-- a larger table -/
theorem larger {o : Obj} (g0 : s.heap.get? a = some o) (g1 : o.ExactSet) (g2 : o.data = .set es ep t) (g3 : es.toList = rowsOf P w L) (g4 : t.place.toList.length = L.length) (g5 : t.dummies = #[]) (g6 : L.length ≤ t.mask)
    (g7 : (L.map (·.2)).Nodup) (g8 : ∀ p, p ∈ L → IsT P w s.heap p.2 p.1) (g9 : t.plain = true) (g10 : w.params.followText "set-order" = true ∨ t.led = true) {wanted M : Nat}
    (m1 : SetTable.sizeAbove wanted = M + 1) (m2 : MkOk M) (m3 : L.length * 5 < M * 3) {Q : Unit → Shared → Prop}
    (out : ∀ h2 L2 es2 ep2 t2, Heap.SameBut a s.heap h2 → SetB P w h2 a L2 es2 ep2 t2 → L2.Perm L → Q () { s with heap := h2 }) : wpAny (model P w) A (setRelay a wanted) Q E s := by
  have n0 := ent_len g3
  have mb := m2.le
  obtain ⟨t2, order, e, hp, T, em, el, epl⟩ := relaid (t := t) (hs := es.map (·.1)) (wanted := wanted) (M := M) (by omega) m2 (by rw [Array.size_map, n0]; omega)
  rw [Array.size_map, n0] at hp
  obtain ⟨N, r1, r2, r3⟩ := order_rows L es order g3 hp
  rw [← r3] at T
  have n1 : (order.filterMap (es[·]?)).size = es.size := by
    have q := ent_len r1
    rw [q, r2.length_eq, n0]
  rw [setRelay_eq]
  refine wpAny_bind (wpAny_setState_of g0 g2 (fits_of g5 g4 n0 g6) ?_)
  dsimp only
  refine wp_if_neg (by rw [sizeLine_eq]; omega) ?_
  try refine wpAny_bind (wpAny_pure ?_)
  rw [e]
  dsimp only
  refine wpAny_bind ?_
  refine wp_if_neg (by rw [n1]; simp) ?_
  try refine wpAny_bind (wpAny_pure ?_)
  refine wpAny_pure ?_
  dsimp only
  refine wpAny_storeSet_of g0 g2 ?_ (by rw [n1, n0, sizeLine_eq]; omega)
  have sb : Heap.SameBut a s.heap (s.heap.update a (Obj.putSet (order.filterMap (es[·]?)) t2)) := Heap.SameBut.update ..
  refine out _ N (order.filterMap (es[·]?)) (ep + 1) t2 sb ⟨⟨_, store_at g0 g2, ⟨g1.1, g1.2.1, g1.2.2⟩, rfl⟩, r1, T, (r2.map (·.2)).nodup_iff.mpr g7, fun p hp => isT_same (g8 p (r2.mem_iff.mp hp)) g0 g2 sb, by rw [epl]; exact g9, by rw [el]; exact g10, by rw [r2.length_eq, em]; exact m3⟩ r2
/-- one more -/
theorem put_in (R : SetB P w s.heap a L es ep t) {x : Addr} {k : List Int} (hx : IsT P w s.heap k x) (hu : A.units < cLine) (most : L.length + 1 ≤ mostB) {Q : Bool → Shared → Prop}
    (out : ∀ b h2 L2 es2 ep2 t2, Heap.SameBut a s.heap h2 → SetB P w h2 a L2 es2 ep2 t2 → (k ∈ L.map (·.2) → L2 = L) → (k ∉ L.map (·.2) → L2.Perm ((x, k) :: L)) → Q b { s with heap := h2 }) :
    wpAny (model P w) A (setAddHashed a (.ref x) (thash P w k)) Q E s := by
  obtain ⟨o, g0, g1, g2⟩ := R.stands
  have n0 := ent_len R.ent
  have rm := R.rm
  unfold setAddHashed
  refine wpAny_holding ?_
  rw [show (100000 : Nat) = 99999 + 1 from rfl, setAddHashedIn_succ]
  refine wpAny_bind (wpAny_setState_of g0 g2 R.fits ?_)
  dsimp only
  refine wp_if_neg (by simp [byScan, Value.scannable]) ?_
  try refine wpAny_bind (wpAny_pure ?_)
  refine wpAny_bind (look R (by unfold mostB at most; omega) hx hu (fun hm => ?_) fun K hm hK hb => ?_)
  · dsimp only
    exact wpAny_pure (out false s.heap L es ep t (Heap.SameBut.refl a s.heap) R (fun _ => rfl) fun z => absurd hm z)
  · dsimp only
    refine wpAny_bind (wpAny_setState_of g0 g2 R.fits ?_)
    dsimp only
    have fl := put_fill R.tb hK
    have T := R.tb.add hK hb rfl
    rw [List.length_map] at fl
    have pl : (t.put (way t.mask (thash P w k) K)).1.plain = true := R.pln
    have ld : w.params.followText "set-order" = true ∨ (t.put (way t.mask (thash P w k) K)).1.led = true := R.ld
    have mk : (t.put (way t.mask (thash P w k) K)).1.mask = t.mask := rfl
    have pp : (t.put (way t.mask (thash P w k) K)).2 = SetTable.below t.place (way t.mask (thash P w k) K) := rfl
    obtain ⟨T1, T2⟩ := T
    generalize hpt : t.put (way t.mask (thash P w k) K) = pt at fl T2 pl ld mk pp ⊢
    obtain ⟨t1, p⟩ := pt
    dsimp only at fl T2 pl ld mk pp ⊢
    rw [← pp] at T2 T1
    first
      | (refine wpAny_bind ?_; refine wp_if_pos pl ?_; refine hashBy_tup hx ?_)
      | refine wp_if_pos pl (wpAny_bind (hashBy_tup hx ?_))
    simp only [if_true]
    have ent : (SetTable.insertAt es p (thash P w k, Value.ref x)).toList = rowsOf P w (L.take p ++ (x, k) :: L.drop p) := by rw [SetTable.toList_insertAt, rows_put, R.ent]
    have pm := put_perm L p (x, k)
    have ln : (L.take p ++ (x, k) :: L.drop p).length = L.length + 1 := pm.length_eq
    have hs2 : (hsh P w L).take p ++ thash P w k :: (hsh P w L).drop p = hsh P w (L.take p ++ (x, k) :: L.drop p) := by simp [hsh]
    rw [hs2] at T2
    have one : ((L.take p ++ (x, k) :: L.drop p).map (·.2)).Nodup := by
      refine (pm.map (·.2)).nodup_iff.mpr ?_
      rw [List.map_cons]
      exact List.nodup_cons.mpr ⟨hm, R.one⟩
    generalize SetTable.insertAt es p (thash P w k, Value.ref x) = es1 at ent ⊢
    generalize L.take p ++ (x, k) :: L.drop p = L1 at pm ln T2 one ent
    have n1 := ent_len ent
    have mb := R.tb.msk.le
    refine wpAny_bind (wpAny_storeSet_of g0 g2 ?_ (by rw [n1, ln, sizeLine_eq]; omega))
    have sb : Heap.SameBut a s.heap (s.heap.update a (Obj.putSet es1 t1)) := Heap.SameBut.update ..
    have at1 := store_at (es' := es1) (t' := t1) g0 g2
    generalize s.heap.update a (Obj.putSet es1 t1) = h1 at sb at1 ⊢
    have tp1 : ∀ p, p ∈ L1 → IsT P w h1 p.2 p.1 := fun p hp => by
      rcases List.mem_cons.mp (pm.mem_iff.mp hp) with e | hp
      · rw [e]
        exact isT_same hx g0 g2 sb
      · exact isT_same (R.tp p hp) g0 g2 sb
    have tl := T2.len
    rw [List.length_map] at tl
    by_cases hf : t1.tooFull = true
    · first
        | (refine wpAny_bind ?_; refine wp_if_pos (by simp [hf]) ?_)
        | (refine wp_if_pos (by simp [hf]) ?_; refine wpAny_bind ?_)
      have full : (L.length + 1) * 5 ≥ t.mask * 3 := by
        have q := hf
        unfold SetTable.tooFull at q
        rw [decide_eq_true_eq, fl, mk] at q
        exact q
      rw [n0]
      obtain ⟨M, m1, m2, m3⟩ := size_next R.tb.msk rm full (by unfold mostB at most; omega)
      refine larger (s := { s with heap := h1 }) (t := t1) at1 ⟨g1.1, g1.2.1, g1.2.2⟩ rfl ent tl T2.nod (by rw [ln, mk]; omega) one tp1 pl ld m1 m2 (by rw [ln]; exact m3) ?_
      intro h2 L2 es2 ep2 t2 sb2 R2 pm2
      exact wpAny_pure (out true h2 L2 es2 ep2 t2 (sb.trans sb2) R2 (fun z => absurd z hm) fun _ => pm2.trans pm)
    · first
        | refine wp_if_neg (by simp [hf]) ?_
        | (refine wpAny_bind ?_; refine wp_if_neg (by simp [hf]) ?_; refine wpAny_pure ?_)
      refine wpAny_pure (out true h1 L1 es1 (ep + 1) t1 sb ⟨⟨_, at1, ⟨g1.1, g1.2.1, g1.2.2⟩, rfl⟩, ent, T2, one, tp1, pl, ld, ?_⟩ (fun z => absurd z hm) fun _ => pm)
      have q := hf
      unfold SetTable.tooFull at q
      rw [decide_eq_true_eq, fl] at q
      rw [ln]
      omega
theorem SetB.stay {h h2 : Heap} (R : SetB P w h a L es ep t) (ha : ∀ o, h.get? a = some o → h2.get? a = some o) (ht : ∀ p, p ∈ L → IsT P w h2 p.2 p.1) : SetB P w h2 a L es ep t := by
  obtain ⟨o, ho, r⟩ := R.stands
  exact ⟨⟨o, ha o ho, r⟩, R.ent, R.tb, R.one, ht, R.pln, R.ld, R.rm⟩
theorem set_new {h : Heap} (ho : h.get? a = some { cls := .type "set", dict := none, data := .set #[] 0 (.fresh 0 0 (!w.params.followText "set-order")) }) : SetB P w h a [] #[] 0 (.fresh 0 0 (!w.params.followText "set-order")) := by
  refine ⟨⟨_, ho, ⟨rfl, rfl, rfl⟩, rfl⟩, rfl, ⟨List.Pairwise.nil, rfl, rfl, ⟨3, rfl, by decide, by decide⟩, fun x hx => (by cases hx), fun i h j hi => (by simp at hi)⟩, List.nodup_nil, fun p hp => (by cases hp), rfl, ?_, by show 0 * 5 < 7 * 3; decide⟩
  show _ ∨ (!w.params.followText "set-order") = true
  cases w.params.followText "set-order"
  · exact .inr rfl
  · exact .inl rfl
/-- the loop of set.update -/
theorem fill_up {I : Addr} {fp wr : List Addr} {G : Array GenState → Array GenState → Prop} {n : Nat} {Pv : Nat → Value → Prop} {St : Nat → Shared → Prop} {R : Result → Shared → Prop}
    (W : WalksS P w A.in1 I fp wr G n Pv St) (S : Addr) (hSf : S ∉ fp) (ks : List (Addr × List Int)) (hn : n = ks.length) (most : ks.length ≤ mostB) (hv : ∀ i v, Pv i v → ∃ p, ks[i]? = some p ∧ v = .ref p.1)
    (b0 : Heap) (hk : ∀ p, p ∈ ks → IsT P w b0 p.2 p.1) (hS0 : b0.get? S = none) (hw0 : ∀ b, b ∈ wr → b0.get? b = none) (hu : A.in1.units < cLine) :
    ∀ (j i : Nat) (s : Shared), n - i = j → i ≤ n → St i s → (∀ b o, b0.get? b = some o → s.heap.get? b = some o) → (∃ L es ep t, SetB P w s.heap S L es ep t ∧ Got ks i L) →
      (∀ s' L es ep t, Moved (S :: wr) G s s' → SetB P w s'.heap S L es ep t → Got ks n L → (∀ b o, b0.get? b = some o → s'.heap.get? b = some o) → R (.ok (.ret .none)) s') →
      codeAny (model P w) A (.builtin "set.update.loop" ⟨[.ref S, .ref I], []⟩) R s := by
  have hSw : S ∉ wr := fun z => hSf (W.sub _ z)
  have more : ∀ b, b ∈ wr → b ∈ S :: wr := fun b hb => List.mem_cons_of_mem _ hb
  have stays : ∀ {s s' : Shared}, Moved wr G s s' → (∀ b o, b0.get? b = some o → s.heap.get? b = some o) → ∀ b o, b0.get? b = some o → s'.heap.get? b = some o := fun hm q b o e =>
    hm.heap b o (fun hb => by rw [hw0 b hb] at e; cases e) (q b o e)
  intro j
  induction j with
  | zero =>
    intro i s hj hi hst q ⟨L, es, ep, t, hS, g⟩ hR
    obtain rfl : i = n := by omega
    refine codeAny_builtin F.entry_set_update_loop ?_
    rw [Around.under_plainId F.plain_set_update_loop _]
    show wpAny _ A.in1 (pyNext (.ref I) >>= _) _ _ s
    refine wpAny_bind (W.done s _ _ hst fun s' hm => ?_)
    show wpAny _ A.in1 (ret Value.none) _ _ s'
    have q2 := stays hm q
    exact wpAny_pure (hR s' L es ep t (hm.mono more) (hS.stay (fun o e => hm.heap S o hSw e) fun p hp => isT_keep (hk p (List.mem_of_mem_take (g.sub p hp))) q2) g q2)
  | succ j ih =>
    intro i s hj hi hst q ⟨L, es, ep, t, hS, g⟩ hR
    have lt : i < n := by omega
    refine codeAny_builtin F.entry_set_update_loop ?_
    rw [Around.under_plainId F.plain_set_update_loop _]
    show wpAny _ A.in1 (pyNext (.ref I) >>= _) _ _ s
    refine wpAny_bind (W.item i s _ _ lt hst fun v s' hP hst2 hm => ?_)
    obtain ⟨p, hp, rfl⟩ := hv i v hP
    have q2 := stays hm q
    have hS2 : SetB P w s'.heap S L es ep t := hS.stay (fun o e => hm.heap S o hSw e) fun r hr => isT_keep (hk r (List.mem_of_mem_take (g.sub r hr))) q2
    have hx : IsT P w s'.heap p.2 p.1 := isT_keep (hk p (List.mem_of_getElem? hp)) q2
    show wpAny _ A.in1 (holding [Value.ref p.1] (setAdd S (.ref p.1)) >>= _) _ _ s'
    refine wpAny_bind (wpAny_holding ?_)
    unfold setAdd
    refine wpAny_holding ?_
    refine wpAny_bind (wpAny_pyHash_tuple hu hx ?_)
    refine put_in (s := { s' with toks := s'.toks + (p.2.length + 1) }) hS2 hx hu (by have := g.len; unfold mostB at most ⊢; omega) fun b h3 L3 es3 ep3 t3 sb hS3 c1 c2 => ?_
    have g3 : Got ks (i + 1) L3 := by
      rcases Classical.em (p.2 ∈ L.map (·.2)) with c | c
      · rw [c1 c]
        exact g.same hp c
      · exact g.more hp (c2 c)
    have q3 : ∀ b o, b0.get? b = some o → h3.get? b = some o := fun b o e => (sb.2 b (fun z => by rw [z, hS0] at e; cases e)).trans (q2 b o e)
    refine wpAny_pure ⟨plainId_quiet F.plain_set_update_loop _, ih (i + 1) _ (by omega) lt (W.frame _ s' _ _ hst2 (Nat.le_add_right _ _) fun b hb o e => ?_) q3 ⟨L3, es3, ep3, t3, hS3, g3⟩ fun s4 L4 es4 ep4 t4 hm4 hS4 g4 q4 => ?_⟩
    · rw [sb.2 b (fun z : b = S => hSf (by rw [← z]; exact hb))]
      exact e
    · refine hR s4 L4 es4 ep4 t4 (Moved.trans W.gtrans ((hm.mono more).then_heap (Nat.le_add_right _ _) fun b o hb e => ?_) hm4) hS4 g4 q4
      rw [sb.2 b (fun z : b = S => hb (by rw [z]; exact List.mem_cons_self))]
      exact e
abbrev noneSet (w : World) : Obj := { cls := .type "set", dict := none, data := .set #[] 0 (.fresh 0 0 (!w.params.followText "set-order")) }
/-- set(xs) -/
theorem set_of {l : Addr} {items : Array Value} (ks : List (Addr × List Int)) {Q : Value → Shared → Prop} (hh : A.handled = none) (hl : s.heap.IsList l items) (hit : items.toList = ks.map fun p => Value.ref p.1)
    (hk : ∀ p, p ∈ ks → IsT P w s.heap p.2 p.1) (most : ks.length ≤ mostB) (hu : A.units + 3 < cLine)
    (out : ∀ (h2 : Heap) (tk : Nat) L es ep t, SetB P w h2 s.heap.objs.size L es ep t → Got ks ks.length L → (∀ b o, s.heap.get? b = some o → h2.get? b = some o) → Q (.ref s.heap.objs.size) { s with heap := h2, toks := tk }) :
    wpAny (model P w) A (call (.type "set") [.ref l]) Q E s := by
  have isz : items.size = ks.length := by
    have q := congrArg List.length hit
    rw [Array.length_toList, List.length_map] at q
    exact q
  obtain ⟨c, tl, hmro⟩ := F.called_set.mro
  have hmade := F.called_set.made
  have hsub := F.called_set.sub
  refine wpAny_call (codeAny_of_tree ?_)
  show wpAny _ _ (callAny (.type "set") _) _ _ _
  refine wpAny_pure ⟨Code.quiet_builtin _ (by decide +kernel), codeAny_builtin F.entry_type_call ?_⟩
  rw [Around.under_plain (weight_type_call_type "set" [.ref l] []) rfl]
  have z1 := F.called_set.notType
  have z2 := F.called_set.canCreate
  have z3 := F.typeCall_set_1 (.ref l)
  repeat (any_goals (first | assumption | wp_step))
  refine codeAny_mono (code_set_led1 (.ref l) (E := E) (Q₁ := fun obj s1 => obj = .ref s.heap.objs.size ∧ s1 = { s with heap := s.heap.push (noneSet w) }) ⟨rfl, rfl⟩) fun r s1 hr => ?_
  cases r with
  | error e => exact hr
  | ok fl =>
    cases fl with
    | ret obj =>
      obtain ⟨rfl, rfl⟩ := hr
      have hS : (s.heap.push (noneSet w)).get? s.heap.objs.size = some (noneSet w) := Heap.get?_push_size _ rfl
      have hT : Shared.TypeIs { s with heap := s.heap.push (noneSet w) } (.ref s.heap.objs.size) "set" := ⟨_, hS, rfl⟩
      have y1 := F.called_set.init.lookup
      have y2 := F.called_set.init.bind (.ref s.heap.objs.size)
      repeat (any_goals (first | assumption | wp_step))
      refine codeAny_mono (codeAny_call_builtin (R := wants (fun r s2 => r = .none ∧ ∃ h2 tk L es ep t, s2 = { s with heap := h2, toks := tk } ∧ SetB P w h2 s.heap.objs.size L es ep t ∧ Got ks ks.length L ∧
          (∀ b o, s.heap.get? b = some o → h2.get? b = some o)) E) F.called_set.init.plain F.entry_set_init (check_set_init_1 hT ?_)) fun r2 s2 hr2 => ?_
      · obtain ⟨ol, hol, hcl, nl, hdl⟩ := hl
        obtain ⟨ocls, odict, odata, oslots⟩ := ol
        simp only at hcl hdl
        subst hcl
        subst hdl
        have hol2 : (s.heap.push (noneSet w)).get? l = some { cls := .type "list", dict := odict, data := .seq items nl, slots := oslots } := Heap.get?_push_of_some _ hol
        have x1 := F.sub_list_set
        have x2 := F.sub_list_frozenset
        have x3 : (Value.type "list" == Value.type "dict") = false := by decide
        have hl1 : (s.heap.push (noneSet w)).IsList l items := ⟨_, hol2, rfl, nl, rfl⟩
        unfold Builtin.«set.__init__» noKeywords Builtin.Frozenset.updateFrom
        generalize hPI : pyIter = PI
        wp_walk
        subst hPI
        refine wpAny_pyIter_list hl1 ?_
        refine wpAny_bind (wpAny_runValue ?_)
        have lS : l < s.heap.objs.size := Heap.lt_size hol
        have h3 : A.in1.in1.in1.handled = none := by simp [hh]
        have nI : l ≠ (s.heap.push (noneSet w)).objs.size := by
          rw [Heap.size_push]
          exact Nat.ne_of_lt (Nat.lt_succ_of_lt lS)
        have hSf : s.heap.objs.size ∉ [(s.heap.push (noneSet w)).objs.size, l] := by
          rw [Heap.size_push]
          simp only [List.mem_cons, List.mem_singleton, List.not_mem_nil, or_false, not_or]
          exact ⟨Nat.ne_of_lt (Nat.lt_succ_self _), Nat.ne_of_gt lS⟩
        have hv : ∀ (i : Nat) (v : Value), items[i]? = some v → ∃ p, ks[i]? = some p ∧ v = .ref p.1 := fun i v hv => by
          have q : items.toList[i]? = some v := by rw [Array.getElem?_toList]; exact hv
          rw [hit, List.getElem?_map] at q
          obtain ⟨p, hp, e⟩ := Option.map_eq_some_iff.mp q
          exact ⟨p, hp, e.symm⟩
        have no : ∀ b, s.heap.objs.size ≤ b → s.heap.get? b = none := fun b hb => by
          cases q : s.heap.get? b with
          | none => rfl
          | some o => exact absurd (Nat.lt_of_lt_of_le (Heap.lt_size q) hb) (Nat.lt_irrefl _)
        have hget : ((s.heap.push (noneSet w)).push { cls := .type "list_iterator", data := .fields #[.ref l, .int 0 0] }).get? s.heap.objs.size = some (noneSet w) := Heap.get?_push_of_some _ hS
        refine fill_up ((Walks.list h3 _ l nI items).toS) s.heap.objs.size hSf ks isz most hv s.heap hk (no _ (Nat.le_refl _)) (fun b hb => no b (by
            rw [List.mem_singleton.mp hb, Heap.size_push]
            exact Nat.le_succ _)) hu (items.size - 0) 0 _ (by omega) (Nat.zero_le _)
          ⟨⟨_, Heap.get?_push_size _ rfl, rfl, rfl⟩, (hl1.push _)⟩ (fun b o e => Heap.get?_push_of_some _ (Heap.get?_push_of_some _ e)) ⟨[], #[], 0, _, set_new hget, Got.zero ks⟩ ?_
        intro s' L es ep t hm hS' g' q
        obtain ⟨h2, g2, d2, tk2, os2⟩ := s'
        have eg : g2 = s.gens := hm.gens
        have ed : d2 = s.drawn := hm.drawn
        have eo : os2 = s.os := hm.os
        subst eg
        subst ed
        subst eo
        show wpAny _ _ _ _ _ _
        refine wpAny_pure ?_
        show wpAny _ _ (ret Value.none) _ _ _
        rw [isz] at g'
        exact wpAny_pure ⟨rfl, h2, tk2, L, es, ep, t, rfl, hS', g', q⟩
      · cases r2 with
        | error e => exact hr2
        | ok fl2 =>
          cases fl2 with
          | ret r =>
            obtain ⟨rfl, h2, tk, L, es, ep, t, rfl, q1, q2, q3⟩ := hr2
            repeat (any_goals (first | assumption | wp_step))
            exact out _ _ _ _ _ _ q1 q2 q3
          | _ => exact hr2.elim
    | _ => exact hr.elim
end
end Big

/-! # sorted(set(xs)), xs a list of pairs of ints, of any size -/
namespace Big
open PySem PySem.Spec PyProof.Rows L2
abbrev kv (l : List Int) : Int × Int := (l.getD 0 0, l.getD 1 0)
section
variable {P : Program} {w : World} {A : Around} {E : Value → Shared → Prop} {s : Shared} {a : Addr} {L : List (Addr × List Int)} {es : Array (Int × Value)} {ep : Nat} {t : SetTable}
def rowAt (L : List (Addr × List Int)) : Value → Addr × List Int
  | .ref b => (L.find? fun p => p.1 == b).getD (b, [])
  | _ => (0, [])
theorem rowAt_of (one : ∀ q, q ∈ L → ∀ r, r ∈ L → q.1 = r.1 → q = r) {p : Addr × List Int} (hp : p ∈ L) : rowAt L (.ref p.1) = p := by
  unfold rowAt
  dsimp only
  cases h : L.find? (fun q => q.1 == p.1) with
  | none =>
    rw [List.find?_eq_none] at h
    exact absurd (h p hp) (by simp)
  | some q =>
    have h1 := List.find?_some h
    have h2 := List.mem_of_find?_eq_some h
    exact one q h2 p hp (by simpa using h1)
/-- iter(set) of a set that keeps its own order: no bound on its size -/
theorem iter_plain {Q : Value → Shared → Prop} (sa : SetAt s.heap a es ep t) (ft : t.fits es.size = true) (up : Ris t.place.toList) (pl : t.plain = true) (ld : w.params.followText "set-order" = true ∨ t.led = true)
    (go : ∀ s2 I, SetIt P w s a es s2 I → Q (.ref I) s2) : wpAny (model P w) A (pyIter (.ref a)) Q E s := by
  obtain ⟨ob, g0, g1, g2⟩ := id sa
  have ty : s.TypeIs (.ref a) "set" := ⟨ob, g0, g1⟩
  have ne : a ≠ s.heap.objs.size := Nat.ne_of_lt (Heap.lt_size g0)
  have two : ∀ b, b ∈ [s.heap.objs.size, a] → b = a ∨ s.heap.objs.size ≤ b := fun b hb => by
    rcases List.mem_cons.mp hb with z | z
    · exact Or.inr (by rw [z]; exact Nat.le_refl _)
    · exact Or.inl (List.mem_singleton.mp z)
  have nodraw : (!t.plain && decide (es.size > 1)) = false := by rw [pl]; rfl
  refine wpAny_pyIter_slot ty F.slot_set_iter (wpAny_call_entry F.slot_set_iter ty entry_s_iter ?_ (F.args_set_iter_1 _))
  unfold Builtin.«frozenset.__iter__»
  refine wpAny_bind (m := Builtin.Frozenset.slot0 "__iter__" _) (wpAny_of_eq (a := a) (by rfl) (wpAny_bind (m := Builtin.Frozenset.sizeOf a) ?_))
  unfold Builtin.Frozenset.sizeOf
  refine wpAny_bind (wpAny_setEntries_of g0 g2 ft (wpAny_pure ?_))
  first
    | refine wpAny_bind (setDrawn_at sa ft ?_)
    | refine wpAny_bind (wpAny_bind (setDrawn_at sa ft ?_))
  rw [nodraw, Bool.and_false]
  refine wp_if_neg (by simp) ?_
  first
    | refine wpAny_bind (wpAny_pure ?_)
    | refine wpAny_pure ?_
  refine wpAny_bind (wpAny_setEpoch_of g0 g2 ft (wpAny_bind (wpAny_newObj_type (wpAny_pure ⟨_, rfl, "set_iterator", _, ⟨_, Heap.get?_push_size _ rfl, rfl⟩, slot_si_next.lookup, ?_⟩))))
  cases tx : w.params.followText "set-order" with
  | true =>
    have pm := pick_perm (w.params.setOrder a ep) es
    refine go _ _ (SetIt.of (fun A1 h1 => walks_text (P := P) (ep := ep) h1 ne ft tx) (out := (pickOrder (w.params.setOrder a ep) es).toList.map (·.2)) (by rw [List.length_map, Array.length_toList]) (fun b o e => Heap.get?_push_of_some _ e) rfl rfl rfl (Nat.le_refl _) two (pm.map _) (fun j x q => by rw [List.getElem?_map, Array.getElem?_toList]; exact q)
      ⟨⟨_, Heap.get?_push_size _ rfl, rfl, rfl⟩, sa.at fun o e => Heap.get?_push_of_some _ e⟩)
  | false =>
    have led : t.led = true := ld.resolve_left (fun z => by rw [tx] at z; cases z)
    refine go _ _ (SetIt.of (fun A1 h1 => walks_led (P := P) (ep := ep) h1 ne ft up tx nodraw led) (out := es.toList.map (·.2)) (by rw [List.length_map, Array.length_toList]) (fun b o e => Heap.get?_push_of_some _ e) rfl rfl rfl (Nat.le_refl _) two (List.Perm.refl _) (fun j x q => by rw [List.getElem?_map, Array.getElem?_toList]; exact q)
      ⟨⟨_, Heap.get?_push_size _ rfl, rfl, rfl⟩, sa.at fun o e => Heap.get?_push_of_some _ e⟩)
abbrev noneList : Obj := { cls := .type "list", data := .seq ([] : List Value).toArray }
/-- its things as a list -/
theorem collect_plain {Q : List Value → Shared → Prop} (nh : A.handled = none) (sa : SetAt s.heap a es ep t) (ft : t.fits es.size = true) (most : es.size ≤ sizeLine) (up : Ris t.place.toList) (pl : t.plain = true) (ld : w.params.followText "set-order" = true ∨ t.led = true)
    (go : ∀ s2 out, (∀ b o, s.heap.get? b = some o → s2.heap.get? b = some o) → s.heap.objs.size ≤ s2.heap.objs.size → s2.gens = s.gens → s2.os = s.os → out.Perm (es.toList.map (·.2)) → Q out s2) : wpAny (model P w) A (collect (.ref a)) Q E s := by
  obtain ⟨ob, g0, g1, g2⟩ := id sa
  have nL : s.heap.objs.size ≠ a := Nat.ne_of_gt (Heap.lt_size g0)
  unfold collect
  refine wpAny_bind (wpAny_runValue (codeAny_builtin F.entry_proto_collect ?_))
  rw [Around.under_plainId F.plain_proto_collect _]
  show wpAny _ A.in1 (newList [] >>= _) _ _ s
  refine wpAny_bind (wpAny_newObj_type (wpAny_pure ⟨plainId_quiet F.plain_list_iadd _, codeAny_builtin F.entry_list_iadd ?_⟩))
  rw [Around.under_plainId F.plain_list_iadd _]
  have hL : (s.heap.push noneList).get? s.heap.objs.size = some noneList := Heap.get?_push_size _ rfl
  have sa1 : SetAt (s.heap.push noneList) a es ep t := sa.at fun o e => Heap.get?_push_of_some _ e
  have sz1 : (s.heap.push noneList).objs.size = s.heap.objs.size + 1 := size_push' _ _
  show wpAny _ A.in1 (Builtin.List.listExtendWith (.ref s.heap.objs.size) (.ref a) (.ref s.heap.objs.size)) _ _ { s with heap := s.heap.push noneList }
  unfold Builtin.List.listExtendWith
  refine wpAny_bind (wpAny_typeOf (T := "set") ⟨ob, Heap.get?_push_of_some _ g0, g1⟩ ?_)
  simp only [show Builtin.List.listSameRef (.ref s.heap.objs.size) (.ref a) = false by simp [Builtin.List.listSameRef, nL], show (Value.type "set" == Value.type "list") = false by decide, show (Value.type "set" == Value.type "tuple") = false by decide, Bool.or_false, Bool.false_eq_true, if_false]
  refine wpAny_bind (iter_plain (s := { s with heap := s.heap.push noneList }) sa1 ft up pl ld fun s2 I it => ?_)
  obtain ⟨fp, St, out, Pv, k2, q1, q2, q3, hI, hfp, pm, hW, hPv, st0⟩ := it
  have notf : s.heap.objs.size ∉ fp := fun m => by
    rcases hfp _ m with z | z
    · exact nL z
    · have z' : (s.heap.push noneList).objs.size ≤ s.heap.objs.size := z
      rw [sz1] at z'
      omega
  have ty2 : s2.TypeIs (.ref a) "set" := ⟨ob, k2 a ob (Heap.get?_push_of_some _ g0), g1⟩
  refine wpAny_bind (wpAny_holding ?_)
  unfold Builtin.List.listLengthHint
  refine wpAny_bind (wpAny_specialOf ty2 F.slot_set_len.lookup ?_)
  generalize hid : ("set.__len__" : String) = nm
  wp_delta
  rw [show splitId nm = some ("set", "__len__") from by subst hid; decide +kernel]
  subst hid
  refine wpAny_bind (wpAny_isInstance (b := true) ty2 sub_set_self ?_)
  show wpAny _ A.in1 (typeOf (.ref a) >>= _) _ _ s2
  refine wpAny_bind (wpAny_typeOf ty2 (wpAny_pure ?_))
  show wpAny _ A.in1 (rule "list.extend.makes-room" >>= _) _ _ s2
  refine wpAny_bind (wpAny_rule (wpAny_bind ?_))
  have hL2 := k2 _ _ hL
  show wpAny _ A.in1 (updateSeq s.heap.objs.size (·.push .none) >>= _) _ _ s2
  have hL3 := Heap.get?_update_self (Obj.mapSeq (·.push Value.none)) hL2 rfl
  have hL4 := Heap.get?_update_self (Obj.mapSeq (·.pop)) hL3 rfl
  refine wpAny_bind (wpAny_updateSeq hL2 rfl (wpAny_updateSeq hL3 rfl ?_))
  have rest : ∀ b o, b ≠ s.heap.objs.size → s2.heap.get? b = some o → ((s2.heap.update s.heap.objs.size (Obj.mapSeq (·.push Value.none))).update s.heap.objs.size (Obj.mapSeq (·.pop))).get? b = some o := fun b o nb e => by
    rw [Heap.get?_update_other _ _ (Ne.symm nb), Heap.get?_update_other _ _ (Ne.symm nb)]
    exact e
  have ln : out.length ≤ sizeLine := by rw [pm.length_eq, List.length_map, Array.length_toList]; exact most
  have Wk := hW A.in1 nh
  have st1 : St 0 ((s2.heap.update s.heap.objs.size (Obj.mapSeq (·.push Value.none))).update s.heap.objs.size (Obj.mapSeq (·.pop))) := Wk.frame 0 _ _ st0 fun b hb o e => rest b o (fun z => notf (z ▸ hb)) e
  refine wpAny_pure ⟨plainId_quiet F.plain_extend_loop _, codeAny_extend_loopS Wk.toS ln _ notf _ out.length 0 _ _ _ rfl (Nat.zero_le _) st1 hL4 (ItemsOf.nil Pv) fun s3 acc c mv hL5 hacc => ?_⟩
  show wpAny _ A (load s.heap.objs.size >>= _) _ _ s3
  refine wpAny_bind (wpAny_load hL5 ?_)
  have eo := items_out hacc hPv
  refine wpAny_pure (show Q acc.toList s3 from ?_)
  rw [eo]
  refine go s3 out (fun b o e => ?_) (Nat.le_of_lt (Heap.lt_size hL5)) (mv.gens.trans q1) (mv.os.trans q2) pm
  have lt : b < s.heap.objs.size := Heap.lt_size e
  have hI2 : s.heap.objs.size + 1 ≤ I := by rw [← sz1]; exact hI
  refine mv.heap b o (fun m => ?_) (rest b o (Nat.ne_of_lt lt) (k2 b o (Heap.get?_push_of_some _ e)))
  have m2 : b = s.heap.objs.size ∨ b = I := by
    rcases List.mem_cons.mp m with z | z
    · first
        | exact Or.inl z
        | exact Or.inr z
    · first
        | exact Or.inl (List.mem_singleton.mp z)
        | exact Or.inr (List.mem_singleton.mp z)
  have lt' : (b : Nat) < s.heap.objs.size := lt
  rcases m2 with z | z
  · rw [z] at lt'
    exact Nat.lt_irrefl _ lt'
  · rw [z] at lt'
    exact Nat.lt_irrefl _ (Nat.lt_of_lt_of_le lt' (Nat.le_of_succ_le hI2))
theorem sorted_set {Q : Value → Shared → Prop} (R : SetB P w s.heap a L es ep t) (most : L.length ≤ mostB) (hh : A.handled = none) (pr : ∀ p, p ∈ L → ∃ x y, p.2 = [x, y])
    (out : ∀ s' q (vs : List Value) (c : Nat) (N : List (Addr × List Int)), (∀ b o, s.heap.get? b = some o → s'.heap.get? b = some o) → s'.gens = s.gens → s'.os = s.os → s.heap.objs.size ≤ q →
      s'.heap.get? q = some (seqObj "list" vs.toArray c) → vs = N.map (fun r => Value.ref r.1) → N.Perm L → N.Pairwise (fun p r => SrtO.lexB (kv r.2) (kv p.2) = false) → Q (.ref q) s') :
    wpAny (model P w) A (call (.builtin "sorted") [.ref a]) Q E s := by
  obtain ⟨o, g0, g1, g2⟩ := R.stands
  have n0 := ent_len R.ent
  refine Calls.call_function_entry kind_sorted plain_sorted entry_sorted (args_sorted1 _) ?_
  unfold Builtin.«sorted»
  refine wpAny_bind (m := checkCount "sorted" 1 1 _) (wpAny_pure ?_)
  refine wpAny_bind (collect_plain (A := A.in1) hh ⟨o, g0, g1.1, g2⟩ R.fits (by rw [sizeLine_eq]; unfold mostB at most; omega) R.tb.up R.pln R.ld fun s1 vs k1 hz e1 e2 pm => ?_)
  have er : es.toList.map (·.2) = L.map fun q => Value.ref q.1 := by
    rw [R.ent]
    unfold rowsOf
    rw [List.map_map]
    rfl
  rw [er] at pm
  have one : ∀ q, q ∈ L → ∀ r, r ∈ L → q.1 = r.1 → q = r := fun q hq r hr e => by
    have a1 := R.tp q hq
    have a2 := R.tp r hr
    rw [e] at a1
    exact Prod.ext e (a1.inj a2)
  have lv : vs.length = L.length := by rw [pm.length_eq, List.length_map]
  have lz : vs.length ≤ sizeLine := by rw [sizeLine_eq]; unfold mostB at most; omega
  refine wpAny_bind (wpAny_newList ?_ lz)
  have hoL : (s1.heap.push (seqObj "list" vs.toArray 0)).get? s1.heap.objs.size = some (seqObj "list" vs.toArray 0) := Heap.get?_push_size _ rfl
  have pairs : ∀ v ∈ vs, Srt.IsPair (s1.heap.push (seqObj "list" vs.toArray 0)) v (kv (rowAt L v).2).1 (kv (rowAt L v).2).2 := fun v hv => by
    obtain ⟨q, hq, rfl⟩ := List.mem_map.mp (pm.mem_iff.mp hv)
    rw [rowAt_of one hq]
    obtain ⟨x, y, exy⟩ := pr q hq
    obtain ⟨u, items, n, b1, b2, b3, b4⟩ := R.tp q hq
    rw [exy] at b4 ⊢
    have b5 := Heap.get?_push_of_some (seqObj "list" vs.toArray 0) (k1 _ _ b1)
    have b6 := ints_of_items b4
    have : ∃ t1 t2, items = #[.int x t1, .int y t2] := by
      obtain ⟨l⟩ := items
      cases b6 with
      | cons i t1 b7 =>
        cases b7 with
        | cons j t2 b8 =>
          cases b8
          exact ⟨t1, t2, rfl⟩
    obtain ⟨t1, t2, rfl⟩ := this
    exact ⟨q.1, u, t1, t2, n, rfl, b5, b2, b3⟩
  refine wpAny_bind (wpAny_holding (wpAny_call_entry slot_list_sort ⟨_, hoL, rfl⟩ entry_list_sort (SrtO.list_sort_ord (s := { s1 with heap := s1.heap.push (seqObj "list" vs.toArray 0) }) (SrtO.swo_lex fun v => kv (rowAt L v).2) hoL lz (fun h2 => SrtO.pairs_sortableO (by omega) pairs fun o ho c => ?_) fun res r1 r2 => ⟨_, rfl, ?_⟩) (args_list_sort _)))
  · have e' : some o = some (seqObj "list" vs.toArray 0) := ho.symm.trans hoL
    cases e'
    exact absurd (Value.type.inj c) (by decide)
  · obtain ⟨c, hc⟩ := sortedHeap_at (vs := vs) (out := res.toArray) hoL
    have back : ∀ v ∈ res, Value.ref (rowAt L v).1 = v := fun v hv => by
      obtain ⟨q, hq, rfl⟩ := List.mem_map.mp (pm.mem_iff.mp (r2.perm.mem_iff.mp hv))
      rw [rowAt_of one hq]
    have e3 : res = (res.map (rowAt L)).map fun r => Value.ref r.1 := by
      rw [List.map_map]
      exact ((List.map_congr_left (g := id) back).trans (List.map_id res)).symm
    have e4 : (L.map fun q => Value.ref q.1).map (rowAt L) = L := by
      rw [List.map_map]
      exact (List.map_congr_left fun q hq => rowAt_of one hq).trans (List.map_id L)
    refine wpAny_pure ⟨_, rfl, out _ s1.heap.objs.size res c (res.map (rowAt L)) (fun b u e => ?_) e1 e2 hz hc e3 ?_ (List.pairwise_map.mpr r1)⟩
    · have q := k1 b u e
      have lt := Heap.lt_size q
      show (sortedHeap (s1.heap.push (seqObj "list" vs.toArray 0)) s1.heap.objs.size vs res.toArray).get? b = some u
      rw [sortedHeap_old (Nat.ne_of_lt lt) (by rw [size_push']; exact Nat.lt_succ_of_lt lt)]
      exact Heap.get?_push_of_some _ q
    · have := (r2.perm.trans pm).map (rowAt L)
      rw [e4] at this
      exact this
end
/-- the set at a, without what is in it -/
def SetB0 (P : Program) (w : World) (h : Heap) (a : Addr) (L : List (Addr × List Int)) : Prop := ∃ (es : Array (Int × Value)) (ep : Nat) (t : SetTable), (∃ o, h.get? a = some o ∧ o.ExactSet ∧ o.data = .set es ep t) ∧ es.toList = rowsOf P w L ∧ Tab t (hsh P w L) ∧ (L.map (·.2)).Nodup ∧ t.plain = true ∧
    (w.params.followText "set-order" = true ∨ t.led = true) ∧ L.length * 5 < t.mask * 3 ∧ L.length ≤ mostB
def SetBO (P : Program) (w : World) (a : Addr) (L : List (Addr × List Int)) : HO := .ext fun h => SetB0 P w h a L
theorem setBO_new {P : Program} {w : World} {H : Hp} {h : Heap} {a : Addr} {L : List (Addr × List Int)} (R : SetB0 P w h a L) : ObjOk P w H h a (SetBO P w a L) := by
  obtain ⟨es, ep, t, ⟨o, ho, r⟩, q⟩ := id R
  refine ⟨R, ⟨o, ho⟩, fun h1 h2 p k => ?_⟩
  obtain ⟨es', ep', t', ⟨o', ho', r'⟩, q'⟩ := (show SetB0 P w h1 a L from p)
  exact ⟨es', ep', t', ⟨o', k o' ho', r'⟩, q'⟩
section
variable {X : Cx}
def rSetB (K : PySem.W.Frag) (P : Program) (w : World) : List V → Hp → VK → Prop := fun xs H Q => ∃ (l : Addr) (ks : List (Addr × List Int)), xs = [V.ref l] ∧ SqL K H l (ks.map fun p => V.ref p.1) ∧ (∀ p, p ∈ ks → SqT K H p.1 (p.2.map V.int)) ∧ ks.length ≤ mostB ∧
  ∀ a L, H a = none → (∀ p, p ∈ L → p ∈ ks) → (∀ p, p ∈ ks → p.2 ∈ L.map (·.2)) → Q (.ref a) (upd H a (SetBO P w a L))
theorem cr_setB (hc : X.calm = true) (hu : X.A.units + 64 < cLine) : CallR X (.type "set") (rSetB X.K X.prog X.w) := by
  intro pins s σ H xs us Q I r h
  obtain ⟨l, ks, rfl, hl, hk, most, q⟩ := h
  rw [Vals.ref1 r]
  obtain ⟨its, rv, pl, hz⟩ := I.list hl
  have hn : H s.heap.objs.size = none := I.hok.fresh (Nat.le_refl _)
  refine set_of (P := X.prog) (w := X.w) ks (I.ok.hd hc) pl.isList (by simpa using refs_of_vals rv) (fun p hp => I.isT (hk p hp)) most (by omega) fun h2 tk L es ep t R g k => ?_
  refine ⟨.ref s.heap.objs.size, upd H s.heap.objs.size (SetBO X.prog X.w s.heap.objs.size L), I.laid (t' := tk) k (Nat.le_refl _) (setBO_new ⟨es, ep, t, R.stands, R.ent, R.tb, R.one, R.pln, R.ld, R.rm, Nat.le_trans g.len most⟩), rfl, q _ L hn (fun p hp => ?_) fun p hp => ?_⟩
  · exact List.mem_of_mem_take (g.sub p hp)
  · exact g.all p (by rw [List.take_length]; exact hp)
def rSortedB (K : PySem.W.Frag) (P : Program) (w : World) : List V → Hp → VK → Prop := fun vs H Q => ∃ (a : Addr) (L : List (Addr × List Int)), vs = [V.ref a] ∧ H a = some (SetBO P w a L) ∧ (∀ p, p ∈ L → SqT K H p.1 (p.2.map V.int)) ∧ (∀ p, p ∈ L → ∃ x y, p.2 = [x, y]) ∧
  ∀ (N : List (Addr × List Int)) (p : Addr), N.Perm L → (N.map (·.2)).Nodup → N.Pairwise (fun p r => SrtO.lexB (kv r.2) (kv p.2) = false) → H p = none → Q (.ref p) (upd H p (.lst (N.map fun q => V.ref q.1)))
theorem cr_sortedB (hc : X.calm = true) : CallR X (.builtin "sorted") (rSortedB X.K X.prog X.w) := by
  intro pins s σ H vs us Q I r h
  obtain ⟨a, L, rfl, ha, hk, pr, q⟩ := h
  obtain ⟨es, ep, t, y1, y2, y3, y4, y5, y6, y7, y8⟩ := (show SetB0 X.prog X.w s.heap a L from (I.hok a _ ha).1)
  have R : SetB X.prog X.w s.heap a L es ep t := ⟨y1, y2, y3, y4, fun p hp => I.isT (hk p hp), y5, y6, y7⟩
  rw [Vals.ref1 r]
  refine sorted_set R y8 (I.ok.hd hc) pr fun s' p vs c N k g o hp hg hout pm pw => ?_
  have hlen : (N.map fun q => V.ref q.1).length ≤ sizeLine := by
    rw [List.length_map, sizeLine_eq, pm.length_eq]
    unfold mostB at y8
    omega
  have hn : H p = none := I.hok.fresh hp
  have hv : Vals (N.map fun q => V.ref q.1) vs := by rw [hout]; exact vals_of_refs N
  have J : Inv X pins σ (upd H p (.lst (N.map fun q => V.ref q.1))) { s with heap := s'.heap, gens := s'.gens, drawn := s'.drawn, toks := s'.toks } :=
    I.call (ch := []) (Un.laid k hp hn) (I.hok.laid k hp ⟨hlen, vs, c, hv, hg⟩) (by rw [g]; exact I.bare) (fun _ z => nomatch z)
  have e : s' = { s with heap := s'.heap, gens := s'.gens, drawn := s'.drawn, toks := s'.toks } := by
    cases s'
    cases s
    cases o
    rfl
  rw [e]
  exact ⟨.ref p, _, J, rfl, q N p pm ((pm.map (·.2)).nodup_iff.mpr R.one) pw hn⟩
end
end Big

namespace Dv
open PySem L2
/-! ### pairs: sorted, each once -/
abbrev ltP2 (p q : Int × Int) : Prop := p.1 < q.1 ∨ (p.1 = q.1 ∧ p.2 < q.2)
instance (p q : Int × Int) : Decidable (ltP2 p q) := by unfold ltP2; infer_instance
def insP (p : Int × Int) : List (Int × Int) → List (Int × Int)
  | [] => [p]
  | q :: l => if p = q then q :: l else if ltP2 p q then p :: q :: l else q :: insP p l
def srtP (l : List (Int × Int)) : List (Int × Int) := l.foldr insP []
theorem mem_insP {p x : Int × Int} : ∀ {l : List (Int × Int)}, x ∈ insP p l ↔ x = p ∨ x ∈ l
  | [] => by simp [insP]
  | q :: l => by
    unfold insP
    split
    · rename_i h
      subst h
      simp
    · split
      · simp
      · rw [List.mem_cons, mem_insP, List.mem_cons]
        constructor
        · rintro (h | h | h)
          · exact .inr (.inl h)
          · exact .inl h
          · exact .inr (.inr h)
        · rintro (h | h | h)
          · exact .inr (.inl h)
          · exact .inl h
          · exact .inr (.inr h)
theorem mem_srtP {x : Int × Int} : ∀ {l : List (Int × Int)}, x ∈ srtP l ↔ x ∈ l
  | [] => by simp [srtP]
  | p :: l => by
    show x ∈ insP p (srtP l) ↔ _
    rw [mem_insP, mem_srtP, List.mem_cons]
theorem ltP2_tri {p q : Int × Int} (h1 : p ≠ q) (h2 : ¬ ltP2 p q) : ltP2 q p := by
  have : ¬ (p.1 = q.1 ∧ p.2 = q.2) := fun z => h1 (Prod.ext z.1 z.2)
  unfold ltP2 at *
  omega
theorem ltP2_trans {p q r : Int × Int} (h1 : ltP2 p q) (h2 : ltP2 q r) : ltP2 p r := by
  unfold ltP2 at *
  omega
theorem ltP2_irr {p : Int × Int} : ¬ ltP2 p p := by
  unfold ltP2
  omega
abbrev StrP (l : List (Int × Int)) : Prop := l.Pairwise ltP2
theorem str_insP {p : Int × Int} : ∀ {l : List (Int × Int)}, StrP l → StrP (insP p l)
  | [], _ => List.pairwise_singleton _ _
  | q :: l, h => by
    have h0 := List.pairwise_cons.mp h
    unfold insP
    split
    · exact h
    · rename_i h1
      split
      · rename_i h2
        refine List.pairwise_cons.mpr ⟨fun x hx => ?_, h⟩
        rcases List.mem_cons.mp hx with z | z
        · rw [z]
          exact h2
        · exact ltP2_trans h2 (h0.1 x z)
      · rename_i h2
        refine List.pairwise_cons.mpr ⟨fun x hx => ?_, str_insP h0.2⟩
        rcases mem_insP.mp hx with z | z
        · rw [z]
          exact ltP2_tri h1 h2
        · exact h0.1 x z
theorem str_srtP : ∀ (l : List (Int × Int)), StrP (srtP l)
  | [] => List.Pairwise.nil
  | p :: l => str_insP (str_srtP l)
/-- two such lists with the same things in them are one -/
theorem str_uniq : ∀ {l m : List (Int × Int)}, StrP l → StrP m → (∀ x, x ∈ l ↔ x ∈ m) → l = m
  | [], [], _, _, _ => rfl
  | [], q :: m, _, _, h => absurd ((h q).mpr List.mem_cons_self) (by simp)
  | p :: l, [], _, _, h => absurd ((h p).mp List.mem_cons_self) (by simp)
  | p :: l, q :: m, h1, h2, h => by
    have a1 := List.pairwise_cons.mp h1
    have a2 := List.pairwise_cons.mp h2
    have e : p = q := by
      rcases List.mem_cons.mp ((h p).mp List.mem_cons_self) with z | z
      · exact z
      · rcases List.mem_cons.mp ((h q).mpr List.mem_cons_self) with y | y
        · exact y.symm
        · exact absurd (ltP2_trans (a2.1 p z) (a1.1 q y)) ltP2_irr
    subst e
    rw [str_uniq a1.2 a2.2 fun x => ⟨fun hx => ?_, fun hx => ?_⟩]
    · rcases List.mem_cons.mp ((h x).mp (List.mem_cons_of_mem _ hx)) with z | z
      · exact absurd (z ▸ a1.1 x hx) ltP2_irr
      · exact z
    · rcases List.mem_cons.mp ((h x).mpr (List.mem_cons_of_mem _ hx)) with z | z
      · exact absurd (z ▸ a2.1 x hx) ltP2_irr
      · exact z
def pD (p : Int × Int) : D := .tup [.int p.1, .int p.2]
def pairsD : List D → Option (List (Int × Int))
  | [] => some []
  | .tup [.int x, .int y] :: r => (pairsD r).bind fun ps => some ((x, y) :: ps)
  | _ => none
theorem pairsD_map : ∀ ps : List (Int × Int), pairsD (ps.map pD) = some ps
  | [] => rfl
  | p :: ps => by
    show (pairsD (ps.map pD)).bind _ = _
    rw [pairsD_map ps]
    rfl
theorem pairsD_eq : ∀ {ds : List D} {ps : List (Int × Int)}, pairsD ds = some ps → ds = ps.map pD
  | [], _, h => by cases h; rfl
  | d :: ds, ps, h => by
    unfold pairsD at h
    split at h
    · cases h
      contradiction
    · rename_i r hr
      cases hr
      obtain ⟨qs, e1, e2⟩ := bnd h
      cases e2
      rw [pairsD_eq e1]
      rfl
    · cases h
def gSortSet : GB
  | [.lst ds] => (pairsD ds).bind fun ps => if ps.length ≤ 9900 then some (.new ((srtP ps).map pD)) else none
  | _ => none
section
variable {K : PySem.W.Frag} {B : Hp} {O : List Addr} {I : List (Nat × Addr)} {σ : L2.St} {H H' G : Hp} {env env' : Env} {v : V}
theorem rows_of : ∀ {ps : List (Int × Int)} {xs : List V}, DqA K G xs (ps.map pD) → ∃ ks : List (Addr × List Int), xs = ks.map (fun p => V.ref p.1) ∧ (∀ p, p ∈ ks → SqT K G p.1 (p.2.map V.int)) ∧ ks.map (·.2) = ps.map fun p => [p.1, p.2]
  | [], xs, h => by
    cases h
    exact ⟨[], rfl, (fun p hp => nomatch hp), rfl⟩
  | p :: ps, xs, h => by
    cases h with
    | cons h1 h2 =>
      obtain ⟨ks, e1, e2, e3⟩ := rows_of h2
      unfold pD at h1
      cases h1 with
      | @tup a us _ h3 h4 =>
        have h5 : us = [V.int p.1, V.int p.2] := DqA.isInts (ns := [p.1, p.2]) h4
        subst h5
        refine ⟨(a, [p.1, p.2]) :: ks, by rw [e1]; rfl, fun q hq => ?_, by rw [List.map_cons, e3]; rfl⟩
        rcases List.mem_cons.mp hq with z | z
        · rw [z]
          exact h3
        · exact e2 q z
theorem dqa_rows : ∀ {N : List (Addr × List Int)} {qs : List (Int × Int)}, (∀ p, p ∈ N → SqT K G p.1 (p.2.map V.int)) → N.map (·.2) = qs.map (fun p => [p.1, p.2]) → DqA K G (N.map fun p => V.ref p.1) (qs.map pD)
  | [], [], _, _ => .nil
  | [], q :: qs, _, h => by cases h
  | p :: N, [], _, h => by cases h
  | p :: N, q :: qs, h, e => by
    rw [List.map_cons, List.map_cons, List.cons.injEq] at e
    have h0 := h p List.mem_cons_self
    rw [e.1] at h0
    exact .cons (.tup h0 (.cons (.int _) (.cons (.int _) .nil))) (dqa_rows (fun r hr => h r (List.mem_cons_of_mem _ hr)) e.2)
theorem snd_sortSet {P : Program} {w : World} {t : TA} {fa : AF} (h1 : SndA K t fa) : Snd K (tCB (Big.rSortedB K P w) (tCons (tCB (Big.rSetB K P w) t) tNil)) (fB gSortSet fa) := by
  intro B O I σ H env rv env' S e Q q
  obtain ⟨⟨r1, env1⟩, e1, e⟩ := bnd e
  obtain ⟨x, ex, e⟩ := bnd e
  obtain ⟨z, ez, e⟩ := bnd e
  cases e
  refine h1 B O I σ H env r1 env1 S e1 _ fun vs H1 S1 P1 => ?_
  unfold gSortSet at ez
  split at ez
  · obtain ⟨v, r, rfl, P2, e2⟩ := one_of P1 ex
    obtain ⟨p1, xs, rfl, h3, k1⟩ := P2.items e2
    obtain ⟨ps, e3, e4⟩ := bnd ez
    split at e4
    · rename_i most
      cases e4
      rw [pairsD_eq e3] at k1
      obtain ⟨ks, f1, f2, f3⟩ := rows_of k1
      subst f1
      have lk : ks.length = ps.length := by
        have := congrArg List.length f3
        simpa using this
      have pr : ∀ p, p ∈ ks → ∃ x y, p.2 = [x, y] := fun p hp => by
        have m : p.2 ∈ ks.map (·.2) := List.mem_map.mpr ⟨p, hp, rfl⟩
        rw [f3] at m
        obtain ⟨r, _, e⟩ := List.mem_map.mp m
        exact ⟨_, _, e.symm⟩
      refine ⟨p1, ks, rfl, .inl (.inl h3), fun p hp => sqT_mono mi_same (f2 p hp), by rw [lk]; exact most, fun a L hn sub all => ?_⟩
      refine ⟨a, L, rfl, upd_same, fun p hp => sqT_mono (same_new hn) (sqT_mono mi_same (f2 p (sub p hp))), fun p hp => pr p (sub p hp), fun N b pm nd pw hb => ?_⟩
      have hb1 : H1 b = none := (same_new hn).free hb
      refine q _ _ ⟨b, _, rfl, upd_same, S1.base.free hb1, fun z => ?_, by rw [mi_one_new hb]; exact S1.grow (same_new hn), ?_⟩
      · obtain ⟨o, ho⟩ := S1.dom b z
        rw [hb1] at ho
        cases ho
      · rw [mi_one_new hb]
        refine dqa_rows (fun p hp => sqT_mono (mi_mono (same_new hn)) (f2 p (sub p (pm.mem_iff.mp hp)))) ?_
        have prN : ∀ p, p ∈ N → p.2 = [(Big.kv p.2).1, (Big.kv p.2).2] := fun p hp => by
          obtain ⟨x, y, e⟩ := pr p (sub p (pm.mem_iff.mp hp))
          rw [e]
          rfl
        have f4 : N.map (fun p => Big.kv p.2) = srtP ps := by
          refine str_uniq ?_ (str_srtP ps) fun x => ?_
          · refine List.pairwise_map.mpr ?_
            have nd2 : N.Pairwise fun p r => p.2 ≠ r.2 := List.pairwise_map.mp nd
            refine List.Pairwise.imp_of_mem (fun {p r} hp hr h => ?_) (nd2.and pw)
            have := SrtO.lexB_no.mp h.2
            have ne : Big.kv p.2 ≠ Big.kv r.2 := fun z => h.1 (by rw [prN p hp, prN r hr, z])
            refine Classical.byContradiction fun y => this ?_
            exact ltP2_tri ne y
          · rw [mem_srtP, List.mem_map]
            constructor
            · rintro ⟨p, hp, rfl⟩
              have m : p.2 ∈ ks.map (·.2) := List.mem_map.mpr ⟨p, sub p (pm.mem_iff.mp hp), rfl⟩
              rw [f3] at m
              obtain ⟨r, hr, e⟩ := List.mem_map.mp m
              rw [← e]
              exact hr
            · intro hx
              have m : [x.1, x.2] ∈ ks.map (·.2) := by
                rw [f3]
                exact List.mem_map.mpr ⟨x, hx, rfl⟩
              obtain ⟨p, hp, e⟩ := List.mem_map.mp m
              obtain ⟨r, hr, e5⟩ := List.mem_map.mp (all p hp)
              exact ⟨r, pm.mem_iff.mpr hr, by rw [e5, e]; rfl⟩
        rw [← f4, List.map_map]
        exact List.map_congr_left prN
    · cases e4
  · cases ez
end
theorem gSortSet_L (xs : List (Int × Int)) : gSortSet [.lst (xs.map fun p => D.tup [.int p.1, .int p.2])] = if xs.length ≤ 9900 then some (.new ((srtP xs).map fun p => D.tup [.int p.1, .int p.2])) else none := by
  show (pairsD (xs.map pD)).bind _ = _
  rw [pairsD_map]
  rfl
end Dv

/-! # t[lo:hi] of tuples, xs[::-1], max(xs), min(xs) -/
namespace Dv
open PySem L2
theorem bits_of {z : Int} (h : Builtin.Int.intBits z ≤ 1048576) : z.natAbs.log2 ≤ 1048576 := by
  unfold Builtin.Int.intBits at h
  split at h
  · rename_i h0
    have : z = 0 := by simpa using h0
    subst this
    decide
  · omega
theorem mul_bit {z : Int} (h : z.natAbs.log2 ≤ 1048576) {j : Int} (h2 : j.natAbs.log2 ≤ 1000000) : mulB z j = true := decide_eq_true (by omega)
section
variable {K : PySem.W.Frag} {te ta : TE} {fe fa : EF}
def gSlT : GS := fun d lo hi => match d with
  | .tup ds => some (.val (.tup (cutD ds lo hi)))
  | _ => none
theorem os_tup : OpS K (rSlA K) gSlT := by
  intro B O I σ H env x ra d lo hi z P e ez Q q
  unfold gSlT at ez
  split at ez
  · cases ez
    obtain ⟨p, xs, rfl, h1, k1⟩ := P.tuple e
    refine ⟨p, xs, rfl, h1, fun hw => ?_, fun _ l hl => q _ _ (post_tup P.sta hl k1.cut)⟩
    rename_i ds
    have e2 : cutD ds lo hi = ds := by
      have := k1.length
      unfold cutD
      rw [← this, hw.1, hw.2, List.drop_zero, Nat.sub_zero, this, List.take_length]
    rw [e2] at q
    cases ra with
    | ex n => exact False.elim P
    | val d' =>
      cases e
      exact q _ _ P
    | slot i =>
      obtain ⟨es, e1, _⟩ := ownAt_of e
      cases e1
    | new es => cases e
    | tw dss =>
      cases e
      exact q _ _ P.frz
  · cases ez
def gRevL : G1
  | .lst ds => some (.new ds.reverse)
  | _ => none
def rRevL (K : PySem.W.Frag) : V → Hp → VK → Prop := fun x H1 Q => ∃ a xs, x = .ref a ∧ SqL K H1 a xs ∧ ∀ p, H1 p = none → Q (.ref p) (upd H1 p (.lst xs.reverse))
theorem op1_revL : Op1 K (rRevL K) gRevL := by
  intro B O I σ H env x ra d z P e ez Q q
  unfold gRevL at ez
  split at ez
  · cases ez
    obtain ⟨p, xs, rfl, h1, k1⟩ := P.items e
    exact ⟨p, xs, rfl, .inl (.inl h1), fun l hl => q _ _ (post_new P.sta hl k1.reverse)⟩
  · cases ez
theorem snd_revL (h : Snd K ta fa) : Snd K (tRevL K ta) (f1 gRevL fa) := snd_1 (r := rRevL K) h op1_revL
def maxL : List Int → Option Int
  | [] => none
  | n :: r => some (r.foldl max n)
def minL : List Int → Option Int
  | [] => none
  | n :: r => some (r.foldl min n)
theorem foldl_max {r : List Int} : ∀ (n : Int), n ≤ r.foldl max n ∧ (∀ y, y ∈ r → y ≤ r.foldl max n) ∧ (r.foldl max n = n ∨ r.foldl max n ∈ r) := by
  induction r with
  | nil => intro n; exact ⟨Int.le_refl _, (fun y h => nomatch h), .inl rfl⟩
  | cons x r ih =>
    intro n
    obtain ⟨h1, h2, h3⟩ := ih (max n x)
    rw [List.foldl_cons]
    refine ⟨by omega, fun y hy => ?_, ?_⟩
    · rcases List.mem_cons.mp hy with z | z
      · omega
      · exact h2 y z
    · rcases h3 with z | z
      · rw [z]
        rcases Int.le_total n x with c | c
        · rw [Int.max_eq_right c]
          exact .inr List.mem_cons_self
        · rw [Int.max_eq_left c]
          exact .inl rfl
      · exact .inr (List.mem_cons_of_mem _ z)
theorem foldl_min {r : List Int} : ∀ (n : Int), r.foldl min n ≤ n ∧ (∀ y, y ∈ r → r.foldl min n ≤ y) ∧ (r.foldl min n = n ∨ r.foldl min n ∈ r) := by
  induction r with
  | nil => intro n; exact ⟨Int.le_refl _, (fun y h => nomatch h), .inl rfl⟩
  | cons x r ih =>
    intro n
    obtain ⟨h1, h2, h3⟩ := ih (min n x)
    rw [List.foldl_cons]
    refine ⟨by omega, fun y hy => ?_, ?_⟩
    · rcases List.mem_cons.mp hy with z | z
      · omega
      · exact h2 y z
    · rcases h3 with z | z
      · rw [z]
        rcases Int.le_total n x with c | c
        · rw [Int.min_eq_left c]
          exact .inl rfl
        · rw [Int.min_eq_right c]
          exact .inr List.mem_cons_self
      · exact .inr (List.mem_cons_of_mem _ z)
theorem maxL_spec {ns : List Int} {m : Int} (h : maxL ns = some m) : m ∈ ns ∧ ∀ y, y ∈ ns → y ≤ m := by
  cases ns with
  | nil => cases h
  | cons n r =>
    cases h
    obtain ⟨h1, h2, h3⟩ := foldl_max (r := r) n
    refine ⟨?_, fun y hy => ?_⟩
    · rcases h3 with z | z
      · rw [z]
        exact List.mem_cons_self
      · exact List.mem_cons_of_mem _ z
    · rcases List.mem_cons.mp hy with z | z
      · rw [z]
        exact h1
      · exact h2 y z
theorem minL_spec {ns : List Int} {m : Int} (h : minL ns = some m) : m ∈ ns ∧ ∀ y, y ∈ ns → m ≤ y := by
  cases ns with
  | nil => cases h
  | cons n r =>
    cases h
    obtain ⟨h1, h2, h3⟩ := foldl_min (r := r) n
    refine ⟨?_, fun y hy => ?_⟩
    · rcases h3 with z | z
      · rw [z]
        exact List.mem_cons_self
      · exact List.mem_cons_of_mem _ z
    · rcases List.mem_cons.mp hy with z | z
      · rw [z]
        exact h1
      · exact h2 y z
def gMaxL : GB
  | [.lst ds] => (allInts ds).bind fun ns => (maxL ns).bind fun m => some (.val (.int m))
  | _ => none
def gMinL : GB
  | [.lst ds] => (allInts ds).bind fun ns => (minL ns).bind fun m => some (.val (.int m))
  | _ => none
theorem len_pos {ns : List Int} {m : Int} (h : m ∈ ns) : 0 < ns.length := by
  cases ns with
  | nil => cases h
  | cons a r => exact Nat.succ_pos _
theorem cg_maxL : CallG K (rMax K) gMaxL := by
  intro B O I σ H env vs rs ds z S P e ez Q q
  unfold gMaxL at ez
  split at ez
  · obtain ⟨v, r, rfl, P1, e1⟩ := one_of P e
    obtain ⟨p1, xs, rfl, h1, k1⟩ := P1.items e1
    obtain ⟨bs, e2, e3⟩ := bnd ez
    obtain ⟨m, e4, e5⟩ := bnd e3
    cases e5
    rw [allInts_eq e2] at k1
    rw [k1.isInts] at h1
    obtain ⟨m1, m2⟩ := maxL_spec e4
    refine ⟨p1, bs, rfl, .inl (.inl h1), len_pos m1, fun x hx hy => ?_⟩
    have : x = m := Int.le_antisymm (m2 x hx) (hy m m1)
    rw [this]
    exact q _ H ⟨S, .int _⟩
  · cases ez
theorem cg_minL : CallG K (rMin K) gMinL := by
  intro B O I σ H env vs rs ds z S P e ez Q q
  unfold gMinL at ez
  split at ez
  · obtain ⟨v, r, rfl, P1, e1⟩ := one_of P e
    obtain ⟨p1, xs, rfl, h1, k1⟩ := P1.items e1
    obtain ⟨bs, e2, e3⟩ := bnd ez
    obtain ⟨m, e4, e5⟩ := bnd e3
    cases e5
    rw [allInts_eq e2] at k1
    rw [k1.isInts] at h1
    obtain ⟨m1, m2⟩ := minL_spec e4
    refine ⟨p1, bs, rfl, .inl (.inl h1), len_pos m1, fun x hx hy => ?_⟩
    have : x = m := Int.le_antisymm (hy m m1) (m2 x hx)
    rw [this]
    exact q _ H ⟨S, .int _⟩
  · cases ez
/-- f(new), f changes it -/
def fCallN (g : FF) (fe : EF) : EF := fun env => (fe env).bind fun a => match a.1 with
  | .new ds => (g [.lst ds]).bind fun r => (resR r).bind fun z => some (z, a.2)
  | _ => none
theorem snd_callN {g : FF} {E : XK} (h : Snd K te fe) : Snd K (tCall (spD K [true] g) [] E (tCons te tNil)) (fCallN g fe) := by
  intro B O I σ H env rv env' S e Q q
  obtain ⟨⟨r1, env1⟩, e1, e⟩ := bnd e
  cases r1 with
  | new ds =>
    obtain ⟨⟨r, fr, outs⟩, e2, e⟩ := bnd e
    obtain ⟨z, e3, e⟩ := bnd e
    cases e
    refine h B O I σ H env _ _ S e1 _ fun v H1 P1 => ?_
    obtain ⟨p, xs, rfl, h1, h2, h3, S1, h4⟩ := P1
    have dq : DqA K (mi H1 (p :: O)) xs ds := DqA.mono (fun a o ha => by
      obtain ⟨y1, y2⟩ := mi_some ha
      obtain ⟨y3, y4⟩ := mi_some y2
      exact mi_of (fun z => by
        rcases List.mem_cons.mp z with w | w
        · exact y3 (List.mem_singleton.mpr w)
        · exact y1 w) y4) _ _ h4
    show spD K [true] g [V.ref p] H1 Q E
    refine ⟨p :: O, [.lst ds], r, fr, outs, .io List.mem_cons_self h1 dq .nil, ?_, fun a ha => ?_, fun a ys ha => ?_, e2, fun v H2 R => ?_⟩
    · show [p].Nodup
      simp
    · rcases List.mem_cons.mp ha with w | w
      · rw [w]
        exact ⟨_, h1⟩
      · obtain ⟨o, ho⟩ := S1.dom a w
        exact ⟨o, (mi_some ho).2⟩
    · rcases List.mem_cons.mp ha with w | w
      · rw [w, h1]
        exact fun z => by cases z
      · exact S1.ntS w (fun o ho => (mi_some ho).2) ys
    · have fr1 : ∀ a o, mi H1 [p] a = some o → H2 a = some o := fun a o ha => by
        obtain ⟨y1, y2⟩ := mi_some ha
        exact R.frame a o y2 y1
      cases fr with
      | false =>
        obtain ⟨o1, o2⟩ := R.old rfl
        have ez : rv = RV.val r := by
          unfold resR at e3
          cases r <;> cases e3 <;> rfl
        subst ez
        exact q _ _ ⟨S1.grow fr1, Dq.mono (mi_sub fun a ha => List.mem_cons_of_mem _ ha) _ _ o2⟩
      | true =>
        by_cases tp : isTp r = true
        · obtain ⟨b, qs, dss, rfl, rfl, hb2, hnd, hfr, hls, o1⟩ := R.tw rfl tp
          have ez := resR_tw e3
          subst ez
          have hq1 : ∀ a, a ∈ qs → mi H1 [p] a = none := fun a ha => by
            unfold mi
            split
            · rfl
            · exact hfr a ha
          refine q _ _ ⟨b, qs, rfl, hb2, hnd, fun a ha => ⟨S1.base.free (hq1 a ha), not_dom S1.dom (hq1 a ha)⟩, S1.grow fun a o ha => mi_of (fun w => ?_) (fr1 a o ha), LsOk.mono (mi_sub fun a ha => ?_) (fun _ _ => rfl) hls⟩
          · rw [hq1 a w] at ha
            cases ha
          · rcases List.mem_append.mp ha with w | w
            · exact List.mem_append_left _ w
            · exact List.mem_append_right _ (List.mem_cons_of_mem _ w)
        obtain ⟨b, ys, rs, rfl, rfl, hb, hb2, hy, o1⟩ := R.new rfl (Bool.eq_false_iff.mpr tp)
        cases e3
        have hb1 : mi H1 [p] b = none := by
          unfold mi
          split
          · rfl
          · exact hb
        refine q _ _ ⟨b, ys, rfl, hb2, S1.base.free hb1, not_dom S1.dom hb1, S1.grow fun a o ha => mi_of (fun w => ?_) (fr1 a o ha), DqA.mono (mi_sub fun a ha => List.mem_cons_of_mem _ ha) _ _ hy⟩
        rw [List.mem_singleton] at w
        subst w
        rw [hb1] at ha
        cases ha
  | _ => cases e
/-! ### a new list that is owned, or a thing -/
def fOwnV (i : Nat) (f : EF) : SFn := fun env => (f env).bind fun a => match a.1 with
  | .new ds => (putS i (.o1 ds) a.2).bind fun e => some (.nx e)
  | .val d => (gfName i d a.2).bind fun e => some (.nx e)
  | _ => none
theorem ss_ownV {W : WN} {i : Nat} (h1 : Snd K te fe) : SndS K W (tAsg te (gName i)) (fOwnV i fe) := by
  intro B O I σ H env o S e D k
  unfold fOwnV at e
  cases ef : fe env with
  | none => rw [ef] at e; cases e
  | some a =>
    obtain ⟨r, e1⟩ := a
    rw [ef, Option.bind_some] at e
    cases r with
    | new ds => exact ss_own h1 B O I σ H env o S (by unfold fOwn; rw [ef]; exact e) D k
    | val d => exact ss_asg h1 (sg_name i) B O I σ H env o S (by unfold fAsg; rw [ef]; exact e) D k
    | _ => cases e
/-! ### nothing is said -/
def tNeverE : TE := fun _ _ _ => False
def fNeverE : EF := fun _ => none
theorem snd_neverE : Snd K tNeverE fNeverE := by
  intro B O I σ H env rv env' S e Q q
  cases e
theorem pe_neverE {X : Cx} {e : Expr} : PE X e tNeverE := ⟨fun _ _ _ _ _ _ h => h.elim⟩
/-! ### an own list that is gone through while nothing changes it -/
def mergeS : SV → SV → SV
  | .o1 _, .o1 b => .o1 b
  | .io _, .io b => .io b
  | .nw _, .nw b => .nw b
  | .nw _, _ => .no
  | .o1 _, _ => .no
  | .io _, _ => .no
  | a, _ => a
def ownNoL : SV → Bool
  | .o1 ds => noLs ds
  | .io ds => noLs ds
  | .nw _ => false
  | _ => true
def noR : RV → Bool
  | .val d => noL d
  | .new ds => noLs ds
  | .tw dss => dss.all noLs
  | _ => false
theorem LsOk.less {K : PySem.W.Frag} {H : Hp} {X Y : List Addr} (h : ∀ b, b ∈ Y → b ∈ X ∨ ∃ xs, H b = some (.lst xs)) : ∀ {qs : List Addr} {dss : List (List D)}, dss.all noLs = true → LsOk K (mi H X) H qs dss → LsOk K (mi H Y) H qs dss
  | [], [], _, _ => trivial
  | [], _ :: _, _, k => k.elim
  | _ :: _, [], _, k => k.elim
  | q :: qs, ds :: dss, a, k => by
    obtain ⟨⟨xs, h1, h2⟩, h3⟩ := k
    rw [List.all_cons, Bool.and_eq_true] at a
    exact ⟨⟨xs, h1, DqA.less h _ _ a.1 h2⟩, LsOk.less h a.2 h3⟩
def fLend (i : Nat) (f : EF) : EF := fun env => match env[i]? with
  | some (.o1 ds) => (f (env.set i (.fz (.lst ds)))).bind fun a => if a.2.all ownNoL && noR a.1 then some (a.1, (List.zipWith mergeS env a.2).set i (.o1 ds)) else none
  | _ => none
theorem merge_own {a b : SV} {ds : List D} (h : mergeS a b = .o1 ds ∨ mergeS a b = .io ds) : (b = .o1 ds ∧ (∃ x, a = .o1 x) ∧ mergeS a b = .o1 ds) ∨ (b = .io ds ∧ (∃ x, a = .io x) ∧ mergeS a b = .io ds) := by
  cases a <;> cases b <;> rcases h with h | h <;> cases h
  · exact .inl ⟨rfl, ⟨_, rfl⟩, rfl⟩
  · exact .inr ⟨rfl, ⟨_, rfl⟩, rfl⟩
theorem merge_fz {a b : SV} {d : D} (h : mergeS a b = .fz d) : a = .fz d := by
  cases a <;> cases b <;> cases h <;> rfl
theorem snd_lend {i : Nat} {t : TE} {f : EF} (h : Snd K t f) : Snd K t (fLend i f) := by
  intro B O I σ H env rv env' S e Q q
  unfold fLend at e
  split at e
  · rename_i ds hi
    obtain ⟨⟨r, e1⟩, ef, e⟩ := bnd e
    dsimp only at e
    split at e
    · rename_i hc
      rw [Bool.and_eq_true] at hc
      cases e
      obtain ⟨p, xs, hp1, hp2, hp3, hp4, hp5⟩ := S.ow i ds (.inl hi)
      have li : i < env.length := (List.getElem?_eq_some_iff.mp hi).1
      have get1 : ∀ j, j ≠ i → (env.set i (.fz (.lst ds)))[j]? = env[j]? := fun j hj => List.getElem?_set_ne (fun z => hj z.symm)
      have geti : (env.set i (SV.fz (.lst ds)))[i]? = some (.fz (.lst ds)) := List.getElem?_set_self li
      have own1 : ∀ j es, OwnAt (env.set i (.fz (.lst ds))) j es → j ≠ i ∧ OwnAt env j es := fun j es ho => by
        by_cases c : j = i
        · subst c
          unfold OwnAt at ho
          rw [geti] at ho
          rcases ho with z | z <;> cases z
        · unfold OwnAt at ho ⊢
          rw [get1 j c] at ho
          exact ⟨c, ho⟩
      let O1 := O.filter fun a => a != p
      have inO1 : ∀ a, a ∈ O1 ↔ a ∈ O ∧ a ≠ p := fun a => by simp [O1]
      have up : Same (mi H O) (mi H O1) := mi_sub fun a ha => ((inO1 a).mp ha).1
      have S1 : Sta K B O1 I σ H (env.set i (.fz (.lst ds))) := by
        refine ⟨by rw [List.length_set]; exact S.len, fun j d hj => ?_, fun j es ho => ?_, fun j k es fs a ho1 ho2 => ?_, S.base, fun a ha => S.dom a ((inO1 a).mp ha).1, fun j a hj => ?_, ?_, fun a xs ha => S.nt a xs ((inO1 a).mp ha).1⟩
        · by_cases c : j = i
          · subst c
            rw [geti] at hj
            cases hj
            exact ⟨_, hp1, .lst (mi_of (fun z => ((inO1 p).mp z).2 rfl) hp3) (DqA.mono up _ _ hp4)⟩
          · rw [get1 j c] at hj
            obtain ⟨v, h1, h2⟩ := S.fz j d hj
            exact ⟨v, h1, Dq.mono up _ _ h2⟩
        · obtain ⟨c, ho⟩ := own1 j es ho
          obtain ⟨a, ys, k1, k2, k3, k4, k5⟩ := S.ow j es ho
          refine ⟨a, ys, k1, (inO1 a).mpr ⟨k2, fun z => ?_⟩, k3, DqA.mono up _ _ k4, k5⟩
          subst z
          exact c (S.sep j i es ds a ho (.inl hi) k1 hp1)
        · exact S.sep j k es fs a (own1 j es ho1).2 (own1 k fs ho2).2
        · obtain ⟨y1, es, y2⟩ := S.pin j a hj
          refine ⟨y1, es, ?_⟩
          rw [get1 j (fun z => ?_)]
          · exact y2
          · subst z
            rw [hi] at y2
            cases y2
        · refine NwOk.go S.nw (fun j w hj => ⟨(nw_set li (by intro w z; cases z) hj).2, rfl⟩) (fun j es a ho e => .inl ⟨es, (own1 j es ho).2, e⟩) (fun a g1 g2 _ g4 => ⟨(inO1 a).mpr ⟨g1, fun z => ?_⟩, g2, rfl⟩) up S.dom
          subst z
          exact g4 i ds (.inl hi) hp1
      -- what is neither owned nor changed
      have kp : keepH σ (env.set i (.fz (.lst ds))) H p = some (.lst xs) := by
        rw [keepH_not (fun z => ((inO1 p).mp (S1.owns_in z)).2 rfl)]
        exact hp3
      have back : ∀ H', Sta K (keepH σ (env.set i (.fz (.lst ds))) H) O1 I σ H' e1 → Sta K B O I σ H' ((List.zipWith mergeS env e1).set i (.o1 ds)) ∧ Same (mi H O) (mi H' O) ∧ H' p = some (.lst xs) := fun H' S2 => by
        have hp' : H' p = some (.lst xs) := S2.base _ _ kp
        have stay : Same (mi H O) (mi H' O) := fun a o ha => by
          obtain ⟨y1, y2⟩ := mi_some ha
          refine mi_of y1 (S2.base a o ?_)
          rw [keepH_not (fun z => y1 ((inO1 a).mp (S1.owns_in z)).1)]
          exact y2
        have l1 : e1.length = env.length := by rw [← S2.len, S.len]
        have lz : (List.zipWith mergeS env e1).length = env.length := by rw [List.length_zipWith, l1, Nat.min_self]
        have hget : ∀ j, j ≠ i → ∀ s, ((List.zipWith mergeS env e1).set i (.o1 ds))[j]? = some s → ∃ a b, env[j]? = some a ∧ e1[j]? = some b ∧ s = mergeS a b := fun j hj s hs => by
          rw [List.getElem?_set_ne (fun z => hj z.symm), List.getElem?_zipWith] at hs
          cases ha : env[j]? with
          | none => rw [ha] at hs; cases hs
          | some a =>
            cases hb : e1[j]? with
            | none => rw [ha, hb] at hs; cases hs
            | some b =>
              rw [ha, hb] at hs
              cases hs
              exact ⟨a, b, rfl, rfl, rfl⟩
        have hgi : ((List.zipWith mergeS env e1).set i (SV.o1 ds))[i]? = some (.o1 ds) := List.getElem?_set_self (by rw [lz]; exact li)
        have own2 : ∀ j es, OwnAt ((List.zipWith mergeS env e1).set i (.o1 ds)) j es → (j = i ∧ es = ds) ∨ (j ≠ i ∧ OwnAt e1 j es ∧ (∃ fs, OwnAt env j fs)) := fun j es ho => by
          by_cases c : j = i
          · subst c
            unfold OwnAt at ho
            rw [hgi] at ho
            rcases ho with z | z <;> cases z
            exact .inl ⟨rfl, rfl⟩
          · refine .inr ⟨c, ?_⟩
            rcases ho with z | z
            · obtain ⟨a, b, y1, y2, y3⟩ := hget j c _ z
              rcases merge_own (.inl y3.symm) with ⟨w1, ⟨x, w2⟩, _⟩ | ⟨w1, ⟨x, w2⟩, w3⟩
              · exact ⟨.inl (by rw [y2, w1]), x, .inl (by rw [y1, w2])⟩
              · rw [w3] at y3
                cases y3
            · obtain ⟨a, b, y1, y2, y3⟩ := hget j c _ z
              rcases merge_own (.inr y3.symm) with ⟨w1, ⟨x, w2⟩, w3⟩ | ⟨w1, ⟨x, w2⟩, w3⟩
              · rw [w3] at y3
                cases y3
              · exact ⟨.inr (by rw [y2, w1]), x, .inr (by rw [y1, w2])⟩
        refine ⟨⟨by rw [List.length_set, lz]; exact S.len, fun j d hj => ?_, fun j es ho => ?_, fun j k es fs a ho1 ho2 h1 h2 => ?_, fun a o ha => ?_, fun a ha => ?_, fun j a hj => ?_, NwOk.none fun j w z => ?_, fun a xs ha => ?_⟩, stay, hp'⟩
        · by_cases c : j = i
          · subst c
            rw [hgi] at hj
            cases hj
          · obtain ⟨a, b, y1, y2, y3⟩ := hget j c _ hj
            rw [merge_fz y3.symm] at y1
            obtain ⟨v, k1, k2⟩ := S.fz j d y1
            exact ⟨v, k1, Dq.mono stay _ _ k2⟩
        · rcases own2 j es ho with ⟨rfl, rfl⟩ | ⟨c, ho1, _⟩
          · exact ⟨p, xs, hp1, hp2, hp', DqA.mono stay _ _ hp4, hp5⟩
          · obtain ⟨a, ys, k1, k2, k3, k4, k5⟩ := S2.ow j es ho1
            have nl : noLs es = true := by
              have hall := List.all_eq_true.mp hc.1
              rcases ho1 with z | z
              · exact hall _ (List.mem_of_getElem? z)
              · exact hall _ (List.mem_of_getElem? z)
            refine ⟨a, ys, k1, ((inO1 a).mp k2).1, k3, DqA.less (O := O1) (fun b hb => ?_) _ _ nl k4, ?_⟩
            · by_cases w : b = p
              · rw [w]
                exact .inr ⟨_, hp'⟩
              · exact .inl ((inO1 b).mpr ⟨hb, w⟩)
            · cases hB : B a with
              | none => rfl
              | some o =>
                have : keepH σ (env.set i (.fz (.lst ds))) H a = some o := S1.base_keep _ _ hB
                rw [k5] at this
                cases this
        · rcases own2 j es ho1 with ⟨rfl, rfl⟩ | ⟨c1, _, f1, g1⟩
          · rcases own2 k fs ho2 with ⟨rfl, rfl⟩ | ⟨c2, _, f2, g2⟩
            · rfl
            · exact S.sep _ _ _ _ a (.inl hi) g2 h1 h2
          · rcases own2 k fs ho2 with ⟨rfl, rfl⟩ | ⟨c2, _, f2, g2⟩
            · exact S.sep _ _ _ _ a g1 (.inl hi) h1 h2
            · exact S.sep _ _ _ _ a g1 g2 h1 h2
        · exact S2.base _ _ (S1.base_keep _ _ ha)
        · by_cases w : a = p
          · rw [w]
            exact ⟨_, hp'⟩
          · exact S2.dom a ((inO1 a).mpr ⟨ha, w⟩)
        · obtain ⟨y1, es, y2⟩ := S.pin j a hj
          have c : j ≠ i := fun z => by
            subst z
            rw [hi] at y2
            cases y2
          obtain ⟨y3, fs, y4⟩ := S2.pin j a hj
          refine ⟨y1, fs, ?_⟩
          rw [List.getElem?_set_ne (fun z => c z.symm), List.getElem?_zipWith, y2, y4]
          rfl
        · by_cases c : j = i
          · subst c
            rw [hgi] at z
            cases z
          · obtain ⟨a, b, y1, y2, y3⟩ := hget j c _ z
            have hall := List.all_eq_true.mp hc.1 _ (List.mem_of_getElem? y2)
            cases a <;> cases b <;> cases y3 <;> cases hall
        · by_cases w : a = p
          · rw [w, hp']
            exact fun z => by cases z
          · exact S2.nt a xs ((inO1 a).mpr ⟨ha, w⟩)
      refine h _ O1 I σ H _ _ _ S1.strong ef _ fun v H' P => q v H' ?_
      cases rv with
      | ex n => exact False.elim P
      | slot k => cases hc.2
      | tw dss =>
        obtain ⟨a, qs, rfl, h1, hnd, hfr, S2, hls⟩ := P
        obtain ⟨S3, stay, hp'⟩ := back _ S2
        refine ⟨a, qs, rfl, h1, hnd, fun b hb => ?_, S3, LsOk.less (X := qs ++ O1) (fun b hb => ?_) hc.2 hls⟩
        · obtain ⟨y1, y2⟩ := hfr b hb
          have nap : b ≠ p := fun z => by
            rw [z, kp] at y1
            cases y1
          refine ⟨?_, fun z => y2 ((inO1 b).mpr ⟨z, nap⟩)⟩
          cases hB : B b with
          | none => rfl
          | some o =>
            have : keepH σ (env.set i (.fz (.lst ds))) H b = some o := S1.base_keep _ _ hB
            rw [y1] at this
            cases this
        · rcases List.mem_append.mp hb with w | w
          · exact .inl (List.mem_append_left _ w)
          · by_cases w2 : b = p
            · rw [w2]
              exact .inr ⟨_, (mi_some hp').2⟩
            · exact .inl (List.mem_append_right _ ((inO1 b).mpr ⟨w, w2⟩))
      | val d =>
        obtain ⟨S2, hd⟩ := P
        obtain ⟨S3, stay, hp'⟩ := back H' S2
        refine ⟨S3, Dq.less (O := O1) (fun b hb => ?_) _ _ hc.2 hd⟩
        by_cases w : b = p
        · rw [w]
          exact .inr ⟨_, hp'⟩
        · exact .inl ((inO1 b).mpr ⟨hb, w⟩)
      | new es =>
        obtain ⟨a, ys, rfl, h1, h2, h3, S2, h4⟩ := P
        obtain ⟨S3, stay, hp'⟩ := back _ S2
        have nap : a ≠ p := fun z => by
          rw [z, kp] at h2
          cases h2
        have hB : B a = none := by
          cases hB : B a with
          | none => rfl
          | some o =>
            have : keepH σ (env.set i (.fz (.lst ds))) H a = some o := S1.base_keep _ _ hB
            rw [h2] at this
            cases this
        refine ⟨a, ys, rfl, h1, hB, fun z => h3 ((inO1 a).mpr ⟨z, nap⟩), S3, DqA.less (O := O1) (fun b hb => ?_) _ _ hc.2 h4⟩
        by_cases w : b = p
        · rw [w]
          exact .inr ⟨_, hp'⟩
        · exact .inl ((inO1 b).mpr ⟨hb, w⟩)
    · cases e
  · cases e
/-- a op b op c -/
def fChain (g g2 : G2) (fa fb fc : EF) : EF := fun env => (fa env).bind fun a => (fb a.2).bind fun b => (deref b.2 (frz a.1)).bind fun x => (deref b.2 (frz b.1)).bind fun y => (g x y).bind fun z => match z with
  | .val (.bl true) => (fc b.2).bind fun c => (deref c.2 (frz b.1)).bind fun y => (deref c.2 c.1).bind fun w => (g2 y w).bind fun u => some (u, c.2)
  | .val (.bl false) => some (.val (.bl false), b.2)
  | _ => none
end
end Dv

namespace Dv
open PySem L2

/-! ### what a plain function gives, as wishes -/
def Ok {α : Type} (x : Option α) (P : α → Prop) : Prop := ∃ a, x = some a ∧ P a
section
variable {α β : Type} {x y : Option α} {P Q : α → Prop}
theorem ok_some {a : α} : Ok (some a) P ↔ P a := ⟨fun ⟨_, e, h⟩ => by cases e; exact h, fun h => ⟨a, rfl, h⟩⟩
theorem ok_none : Ok (none : Option α) P ↔ False := ⟨(fun ⟨_, e, _⟩ => nomatch e), False.elim⟩
theorem ok_bind {z : Option β} {k : β → Option α} : Ok (z.bind k) P ↔ Ok z (fun b => Ok (k b) P) := by
  constructor
  · rintro ⟨a, e, h⟩
    obtain ⟨b, e1, e2⟩ := bnd e
    exact ⟨b, e1, a, e2, h⟩
  · rintro ⟨b, e1, a, e2, h⟩
    exact ⟨a, by rw [e1]; exact e2, h⟩
theorem ok_guard {c : Prop} [Decidable c] : Ok (if c then x else none) P ↔ c ∧ Ok x P := by
  by_cases h : c
  · rw [if_pos h]
    exact ⟨fun z => ⟨h, z⟩, fun z => z.2⟩
  · rw [if_neg h]
    exact ⟨fun z => (ok_none.mp z).elim, fun z => absurd z.1 h⟩
theorem ok_ite {c : Prop} [Decidable c] : Ok (if c then x else y) P ↔ (c → Ok x P) ∧ (¬ c → Ok y P) := by
  by_cases h : c
  · rw [if_pos h]
    exact ⟨fun z => ⟨fun _ => z, fun n => absurd h n⟩, fun z => z.1 h⟩
  · rw [if_neg h]
    exact ⟨fun z => ⟨fun n => absurd n h, fun _ => z⟩, fun z => z.2 h⟩
theorem ok_bind_iff {z : Option β} {k : β → Option α} {K : β → Prop} (h : ∀ b, Ok (k b) P ↔ K b) : Ok (z.bind k) P ↔ Ok z K := by
  rw [ok_bind]
  exact ⟨fun ⟨b, e, p⟩ => ⟨b, e, (h b).mp p⟩, fun ⟨b, e, p⟩ => ⟨b, e, (h b).mpr p⟩⟩
theorem ok_mono (h : Ok x P) (k : ∀ a, P a → Q a) : Ok x Q := by
  obtain ⟨a, e, p⟩ := h
  exact ⟨a, e, k a p⟩
theorem ok_eq {a : α} (e : x = some a) (h : P a) : Ok x P := ⟨a, e, h⟩
theorem ok_or {z w : Option α} : Ok (z.or w) P ↔ (match z with | some a => P a | none => Ok w P) := by
  cases z with
  | none => exact Iff.rfl
  | some a => exact ok_some
end
/-! ### names -/
def freeP : SV → Bool
  | .io _ => false
  | _ => true
theorem free_no : freeP .no = true := rfl
theorem free_fz {d : D} : freeP (.fz d) = true := rfl
theorem free_o1 {ds : List D} : freeP (.o1 ds) = true := rfl
theorem putS_0 {s : SV} {x : SV} {env : Env} : putS 0 s (x :: env) = if freeP x = true then some (s :: env) else none := by
  cases x <;> rfl
theorem putS_s {s : SV} {x : SV} {env : Env} {i : Nat} : putS (i + 1) s (x :: env) = (putS i s env).bind fun e => some (x :: e) := by
  have h1 : isIo (x :: env) (i + 1) = isIo env i := by
    unfold isIo
    rw [List.getElem?_cons_succ]
  unfold putS
  rw [h1, List.length_cons, List.set_cons_succ]
  by_cases h : isIo env i = true ∨ env.length ≤ i
  · rw [if_pos h, if_pos (h.imp id Nat.succ_le_succ)]
    rfl
  · rw [if_neg h, if_neg (fun z => h (z.imp id Nat.le_of_succ_le_succ))]
    rfl
theorem upO_0 {h : List D → Option (List D)} {x : SV} {env : Env} : upO 0 h (x :: env) = (match x with | .o1 ds => (h ds).bind fun es => some (.o1 es :: env) | .io ds => (h ds).bind fun es => some (.io es :: env) | _ => none) := by
  cases x <;> rfl
theorem upO_s {h : List D → Option (List D)} {x : SV} {env : Env} {i : Nat} : upO (i + 1) h (x :: env) = (upO i h env).bind fun e => some (x :: e) := by
  unfold upO
  rw [List.getElem?_cons_succ]
  cases e : env[i]? with
  | none => rfl
  | some s =>
    cases s with
    | o1 ds => cases e2 : h ds <;> simp [e2]
    | io ds => cases e2 : h ds <;> simp [e2]
    | fz d => rfl
    | nw w => rfl
    | no => rfl
theorem isOwn_0 {x : SV} {env : Env} : isOwn (x :: env) 0 = (match x with | .o1 _ => true | .io _ => true | _ => false) := by
  cases x <;> rfl
theorem isOwn_s {x : SV} {env : Env} {i : Nat} : isOwn (x :: env) (i + 1) = isOwn env i := by
  unfold isOwn
  rw [List.getElem?_cons_succ]
theorem atI_0 {α : Type} {x : α} {xs : List α} : L2.atI (x :: xs) 0 = some x := by
  unfold L2.atI L2.ixN
  simp
theorem ixN_0 {n : Nat} (h : 0 < n) : L2.ixN n 0 = some 0 := by
  unfold L2.ixN
  simp [h]
theorem atI_natC {α : Type} {xs : List α} {i : Nat} : L2.atI xs (i : Int) = xs[i]? := by
  unfold L2.atI L2.ixN
  by_cases h : i < xs.length
  · rw [if_pos (by omega), if_pos (by omega)]
    simp
  · rw [if_pos (by omega), if_neg (by omega), List.getElem?_eq_none (by omega)]
    rfl

section
variable {env e : Env} {P : RV × Env → Prop} {PT : Bool × Env → Prop} {PA : List RV × Env → Prop} {PO : Out → Prop} {PI : List D × Env → Prop} {PP : Option Int × Env → Prop} {f fa fb : EF} {g h : SFn} {ft gt : TF} {r : RV} {rs : List RV} {fr : AF}
theorem w_var {i : Nat} : Ok (fVar i env) P ↔ (match env[i]? with | some (.fz d) => P (.val d, env) | some (.o1 _) => P (.slot i, env) | some (.io _) => P (.slot i, env) | _ => False) := by
  unfold fVar
  split <;> simp_all [ok_some, ok_none]
theorem w_c {d : D} : Ok (fC d env) P ↔ P (.val d, env) := ok_some
/-- a result in a state -/
def KZ (e : Env) (P : RV × Env → Prop) : RV → Prop := fun z => P (z, e)
theorem k_z {z : RV} : KZ e P z ↔ P (z, e) := Iff.rfl
/-- two things at hand -/
def D2 (g : G2) (x y : Option D) (e : Env) (P : RV × Env → Prop) : Prop := match x, y with
  | some x, some y => Ok (g x y) (KZ e P)
  | _, _ => False
def K2b (g : G2) (r : RV) (P : RV × Env → Prop) : RV × Env → Prop := fun b => D2 g (deref b.2 (frz r)) (deref b.2 b.1) b.2 P
def K2 (g : G2) (fb : EF) (P : RV × Env → Prop) : RV × Env → Prop := fun a => Ok (fb a.2) (K2b g a.1 P)
theorem d_2 {g : G2} {x y : D} : D2 g (some x) (some y) e P ↔ Ok (g x y) (KZ e P) := Iff.rfl
theorem k_2b {g : G2} {r' : RV} : K2b g r P (r', e) ↔ D2 g (deref e (frz r)) (deref e r') e P := Iff.rfl
theorem k_2 {g : G2} : K2 g fb P (r, e) ↔ Ok (fb e) (K2b g r P) := Iff.rfl
theorem w_2 {g : G2} : Ok (f2 g fa fb env) P ↔ Ok (fa env) (K2 g fb P) := by
  unfold f2
  rw [ok_bind]
  constructor <;> intro z <;> refine ok_mono z fun a z => ?_
  · rw [ok_bind] at z
    refine ok_mono z fun b z => ?_
    obtain ⟨q, e, p⟩ := z
    obtain ⟨x, e1, e⟩ := bnd e
    obtain ⟨y, e2, e⟩ := bnd e
    obtain ⟨w, e3, e⟩ := bnd e
    cases e
    show D2 g _ _ _ P
    rw [e1, e2]
    exact ⟨w, e3, p⟩
  · rw [ok_bind]
    refine ok_mono z fun b z => ?_
    have z' : D2 g (deref b.2 (frz a.1)) (deref b.2 b.1) b.2 P := z
    unfold D2 at z'
    split at z'
    · rename_i x y h1 h2
      obtain ⟨w, e3, p⟩ := z'
      exact ⟨(w, b.2), by rw [h1, h2]; simp [e3], p⟩
    · exact z'.elim
def D1 (g : G1) (x : Option D) (e : Env) (P : RV × Env → Prop) : Prop := match x with
  | some x => Ok (g x) (KZ e P)
  | _ => False
def K1 (g : G1) (P : RV × Env → Prop) : RV × Env → Prop := fun a => D1 g (deref a.2 a.1) a.2 P
theorem d_1 {g : G1} {x : D} : D1 g (some x) e P ↔ Ok (g x) (KZ e P) := Iff.rfl
theorem k_1 {g : G1} : K1 g P (r, e) ↔ D1 g (deref e r) e P := Iff.rfl
theorem w_1 {g : G1} : Ok (f1 g fa env) P ↔ Ok (fa env) (K1 g P) := by
  unfold f1
  rw [ok_bind]
  constructor <;> intro z <;> refine ok_mono z fun a z => ?_
  · obtain ⟨q, e, p⟩ := z
    obtain ⟨x, e1, e⟩ := bnd e
    obtain ⟨w, e3, e⟩ := bnd e
    cases e
    show D1 g _ _ P
    rw [e1]
    exact ⟨w, e3, p⟩
  · have z' : D1 g (deref a.2 a.1) a.2 P := z
    unfold D1 at z'
    split at z'
    · rename_i x h1
      obtain ⟨w, e3, p⟩ := z'
      exact ⟨(w, a.2), by rw [h1]; simp [e3], p⟩
    · exact z'.elim
theorem w_nil : Ok (fNil env) PA ↔ PA ([], env) := ok_some
def KCb (r : RV) (PA : List RV × Env → Prop) : List RV × Env → Prop := fun b => PA (frz r :: b.1, b.2)
def KC (fr : AF) (PA : List RV × Env → Prop) : RV × Env → Prop := fun a => Ok (fr a.2) (KCb a.1 PA)
theorem k_cb : KCb r PA (rs, e) ↔ PA (frz r :: rs, e) := Iff.rfl
theorem k_c : KC fr PA (r, e) ↔ Ok (fr e) (KCb r PA) := Iff.rfl
theorem w_cons : Ok (fCons fa fr env) PA ↔ Ok (fa env) (KC fr PA) := by
  show Ok ((fa env).bind fun a => (fr a.2).bind fun b => some (frz a.1 :: b.1, b.2)) PA ↔ _
  simp only [ok_bind, ok_some]
  exact Iff.rfl
def DB (g : GB) (x : Option (List D)) (e : Env) (P : RV × Env → Prop) : Prop := match x with
  | some x => Ok (g x) (KZ e P)
  | _ => False
def KB (g : GB) (P : RV × Env → Prop) : List RV × Env → Prop := fun a => DB g (derefs a.2 a.1) a.2 P
theorem d_b {g : GB} {x : List D} : DB g (some x) e P ↔ Ok (g x) (KZ e P) := Iff.rfl
theorem k_b {g : GB} : KB g P (rs, e) ↔ DB g (derefs e rs) e P := Iff.rfl
theorem w_b {g : GB} : Ok (fB g fr env) P ↔ Ok (fr env) (KB g P) := by
  unfold fB
  rw [ok_bind]
  constructor <;> intro z <;> refine ok_mono z fun a z => ?_
  · obtain ⟨q, e, p⟩ := z
    obtain ⟨x, e1, e⟩ := bnd e
    obtain ⟨w, e3, e⟩ := bnd e
    cases e
    show DB g _ _ P
    rw [e1]
    exact ⟨w, e3, p⟩
  · have z' : DB g (derefs a.2 a.1) a.2 P := z
    unfold DB at z'
    split at z'
    · rename_i x h1
      obtain ⟨w, e3, p⟩ := z'
      exact ⟨(w, a.2), by rw [h1]; simp [e3], p⟩
    · exact z'.elim
def DV (x : Option (List D)) (Q : List D → Prop) : Prop := match x with
  | some x => Q x
  | _ => False
theorem d_v {x : List D} {Q : List D → Prop} : DV (some x) Q ↔ Q x := Iff.rfl
theorem dv_ok {x : Option (List D)} {Q : List D → Prop} : DV x Q ↔ Ok x Q := by
  cases x with
  | none => exact ok_none.symm
  | some y => exact (ok_some (P := Q)).symm
def QTup (e : Env) (P : RV × Env → Prop) : List D → Prop := fun ds => ds.length ≤ 10000000 ∧ P (.val (.tup ds), e)
def QLst (e : Env) (P : RV × Env → Prop) : List D → Prop := fun ds => ds.length ≤ 10000000 ∧ P (.new ds, e)
def KTup (P : RV × Env → Prop) : List RV × Env → Prop := fun a => DV (allVal a.1) (QTup a.2 P)
def KLst (P : RV × Env → Prop) : List RV × Env → Prop := fun a => DV (allVal a.1) (QLst a.2 P)
theorem q_tup {ds : List D} : QTup e P ds ↔ ds.length ≤ 10000000 ∧ P (.val (.tup ds), e) := Iff.rfl
theorem q_lst {ds : List D} : QLst e P ds ↔ ds.length ≤ 10000000 ∧ P (.new ds, e) := Iff.rfl
theorem k_tup : KTup P (rs, e) ↔ DV (allVal rs) (QTup e P) := Iff.rfl
theorem k_lst : KLst P (rs, e) ↔ DV (allVal rs) (QLst e P) := Iff.rfl
theorem w_tup : Ok (fTup fr env) P ↔ Ok (fr env) (KTup P) := by
  unfold fTup
  rw [ok_bind]
  simp only [ok_bind, ok_some, ok_guard]
  constructor <;> intro z <;> refine ok_mono z fun a z => ?_
  · exact dv_ok.mpr z
  · exact dv_ok.mp z
theorem w_lst : Ok (fLst fr env) P ↔ Ok (fr env) (KLst P) := by
  unfold fLst
  rw [ok_bind]
  simp only [ok_bind, ok_some, ok_guard]
  constructor <;> intro z <;> refine ok_mono z fun a z => ?_
  · exact dv_ok.mpr z
  · exact dv_ok.mp z
/-- tests -/
def KT (PT : Bool × Env → Prop) : RV × Env → Prop := fun a => match a.1 with
  | .val (.bl b) => PT (b, a.2)
  | _ => False
theorem k_t {b : Bool} : KT PT (.val (.bl b), e) ↔ PT (b, e) := Iff.rfl
theorem w_T : Ok (fT f env) PT ↔ Ok (f env) (KT PT) := by
  refine ok_bind_iff fun ⟨r, e⟩ => ?_
  cases r with
  | ex n => first | exact ok_none (P := PO) | exact ok_none (P := PT) | exact ok_none (P := PP) | exact ok_none (P := PI) | exact ok_none (P := PF) | exact ok_none (P := P) | exact ok_none | (cases r' <;> exact ok_none (P := PO))
  | val d => cases d <;> first | exact ok_some (P := PT) | exact ok_none (P := PT)
  | slot i => exact ok_none (P := PT)
  | new ds => exact ok_none (P := PT)
  | tw ds => first | (exact ok_none (P := PT)) | exact ok_none (P := PO) | exact ok_none (P := PT) | exact ok_none (P := PP) | exact ok_none (P := PI) | exact ok_none (P := PF) | exact ok_none (P := P) | exact ok_none
def KAnd (gt : TF) (PT : Bool × Env → Prop) : Bool × Env → Prop := fun x => (x.1 = true → Ok (gt x.2) PT) ∧ (x.1 = false → PT (false, x.2))
def KOr (gt : TF) (PT : Bool × Env → Prop) : Bool × Env → Prop := fun x => (x.1 = true → PT (true, x.2)) ∧ (x.1 = false → Ok (gt x.2) PT)
def KNot (PT : Bool × Env → Prop) : Bool × Env → Prop := fun x => PT (!x.1, x.2)
theorem k_and {b : Bool} : KAnd gt PT (b, e) ↔ (b = true → Ok (gt e) PT) ∧ (b = false → PT (false, e)) := Iff.rfl
theorem k_or {b : Bool} : KOr gt PT (b, e) ↔ (b = true → PT (true, e)) ∧ (b = false → Ok (gt e) PT) := Iff.rfl
theorem k_not {b : Bool} : KNot PT (b, e) ↔ PT (!b, e) := Iff.rfl
theorem w_and : Ok (fAnd ft gt env) PT ↔ Ok (ft env) (KAnd gt PT) := by
  unfold fAnd
  simp only [ok_bind, ok_ite, ok_some, Bool.not_eq_true]
  exact Iff.rfl
theorem w_or : Ok (fOr ft gt env) PT ↔ Ok (ft env) (KOr gt PT) := by
  unfold fOr
  simp only [ok_bind, ok_ite, ok_some, Bool.not_eq_true]
  exact Iff.rfl
theorem w_not : Ok (fNot ft env) PT ↔ Ok (ft env) (KNot PT) := by
  unfold fNot
  simp only [ok_bind, ok_some]
  exact Iff.rfl
theorem w_yes : Ok (fYes env) PT ↔ PT (true, env) := ok_some
def KAndV (fb : EF) (P : RV × Env → Prop) : Bool × Env → Prop := fun x => (x.1 = true → Ok (fb x.2) P) ∧ (x.1 = false → P (.val (.bl false), x.2))
def KOrV (fb : EF) (P : RV × Env → Prop) : Bool × Env → Prop := fun x => (x.1 = true → P (.val (.bl true), x.2)) ∧ (x.1 = false → Ok (fb x.2) P)
def KNotV (P : RV × Env → Prop) : Bool × Env → Prop := fun x => P (.val (.bl (!x.1)), x.2)
def KIfE (fa fb : EF) (P : RV × Env → Prop) : Bool × Env → Prop := fun x => (x.1 = true → Ok (fa x.2) P) ∧ (x.1 = false → Ok (fb x.2) P)
theorem k_andV {b : Bool} : KAndV fb P (b, e) ↔ (b = true → Ok (fb e) P) ∧ (b = false → P (.val (.bl false), e)) := Iff.rfl
theorem k_orV {b : Bool} : KOrV fb P (b, e) ↔ (b = true → P (.val (.bl true), e)) ∧ (b = false → Ok (fb e) P) := Iff.rfl
theorem k_notV {b : Bool} : KNotV P (b, e) ↔ P (.val (.bl (!b)), e) := Iff.rfl
theorem k_ifE {b : Bool} : KIfE fa fb P (b, e) ↔ (b = true → Ok (fa e) P) ∧ (b = false → Ok (fb e) P) := Iff.rfl
theorem w_andV : Ok (fAndV fa fb env) P ↔ Ok (fT fa env) (KAndV fb P) := by
  unfold fAndV
  simp only [ok_bind, ok_ite, ok_some, Bool.not_eq_true]
  exact Iff.rfl
theorem w_orV : Ok (fOrV fa fb env) P ↔ Ok (fT fa env) (KOrV fb P) := by
  unfold fOrV
  simp only [ok_bind, ok_ite, ok_some, Bool.not_eq_true]
  exact Iff.rfl
theorem w_notV : Ok (fNotV fa env) P ↔ Ok (fT fa env) (KNotV P) := by
  unfold fNotV
  simp only [ok_bind, ok_some]
  exact Iff.rfl
theorem w_ifE : Ok (fIfE ft fa fb env) P ↔ Ok (ft env) (KIfE fa fb P) := by
  unfold fIfE
  simp only [ok_bind, ok_ite, ok_some, Bool.not_eq_true]
  exact Iff.rfl
/-- statements -/
def KNx (PO : Out → Prop) : Env → Prop := fun e => PO (.nx e)
theorem k_nxt : KNx PO e ↔ PO (.nx e) := Iff.rfl
def KAsg (k : GF) (PO : Out → Prop) : RV × Env → Prop := fun a => match frz a.1 with
  | .val d => Ok (k d a.2) (KNx PO)
  | _ => False
theorem k_asg {k : GF} {d : D} : KAsg k PO (.val d, e) ↔ Ok (k d e) (KNx PO) := Iff.rfl
theorem k_asgN {k : GF} {ds : List D} : KAsg k PO (.new ds, e) ↔ Ok (k (.lst ds) e) (KNx PO) := Iff.rfl
theorem w_asg {k : GF} : Ok (fAsg f k env) PO ↔ Ok (f env) (KAsg k PO) := by
  refine ok_bind_iff fun ⟨r, e⟩ => ?_
  cases r with
  | ex n => first | exact ok_none (P := PO) | exact ok_none (P := PT) | exact ok_none (P := PP) | exact ok_none (P := PI) | exact ok_none (P := PF) | exact ok_none (P := P) | exact ok_none | (cases r' <;> exact ok_none (P := PO))
  | val d => exact ok_bind_iff (P := PO) fun e => ok_some (P := PO)
  | slot i => exact ok_none (P := PO)
  | new ds => exact ok_bind_iff (P := PO) fun e => ok_some (P := PO)
  | tw ds => first | (exact ok_bind_iff (P := PO) fun e => ok_some (P := PO)) | exact ok_none (P := PO) | exact ok_none (P := PT) | exact ok_none (P := PP) | exact ok_none (P := PI) | exact ok_none (P := PF) | exact ok_none (P := P) | exact ok_none
theorem w_name {i : Nat} {d : D} {Q : Env → Prop} : Ok (gfName i d env) Q ↔ Ok (putS i (.fz d) env) Q := Iff.rfl
def KOwn (i : Nat) (PO : Out → Prop) : RV × Env → Prop := fun a => match a.1 with
  | .new ds => Ok (putS i (.o1 ds) a.2) (KNx PO)
  | _ => False
theorem k_own {i : Nat} {ds : List D} : KOwn i PO (.new ds, e) ↔ Ok (putS i (.o1 ds) e) (KNx PO) := Iff.rfl
theorem w_own {i : Nat} : Ok (fOwn i f env) PO ↔ Ok (f env) (KOwn i PO) := by
  refine ok_bind_iff fun ⟨r, e⟩ => ?_
  cases r with
  | ex n => first | exact ok_none (P := PO) | exact ok_none (P := PT) | exact ok_none (P := PP) | exact ok_none (P := PI) | exact ok_none (P := PF) | exact ok_none (P := P) | exact ok_none | (cases r' <;> exact ok_none (P := PO))
  | val d => exact ok_none (P := PO)
  | slot i => exact ok_none (P := PO)
  | new ds => exact ok_bind_iff (P := PO) fun e => ok_some (P := PO)
  | tw ds => first | (exact ok_bind_iff (P := PO) fun e => ok_some (P := PO)) | exact ok_none (P := PO) | exact ok_none (P := PT) | exact ok_none (P := PP) | exact ok_none (P := PI) | exact ok_none (P := PF) | exact ok_none (P := P) | exact ok_none
def KPut (i : Nat) (d : D) (PO : Out → Prop) : Env → Prop := fun e => Ok (putS i (.fz d) e) (KNx PO)
theorem k_put {i : Nat} {d : D} : KPut i d PO e ↔ Ok (putS i (.fz d) e) (KNx PO) := Iff.rfl
def QPar (i j : Nat) (e : Env) (PO : Out → Prop) : List D → Prop := fun ds => match ds with
  | [d, d'] => Ok (putS i (.fz d) e) (KPut j d' PO)
  | _ => False
theorem q_par {i j : Nat} {d d' : D} : QPar i j e PO [d, d'] ↔ Ok (putS i (.fz d) e) (KPut j d' PO) := Iff.rfl
def KPar (i j : Nat) (PO : Out → Prop) : List RV × Env → Prop := fun a => DV (allVal a.1) (QPar i j a.2 PO)
theorem k_par {i j : Nat} : KPar i j PO (rs, e) ↔ DV (allVal rs) (QPar i j e PO) := Iff.rfl
theorem w_par {i j : Nat} : Ok (fPar i j fr env) PO ↔ Ok (fr env) (KPar i j PO) := by
  refine ok_bind_iff fun ⟨rs, e⟩ => ?_
  refine Iff.trans (ok_bind_iff (K := QPar i j e PO) fun ds => ?_) dv_ok.symm
  match ds with
  | [] => exact ok_none (P := PO)
  | [_] => exact ok_none (P := PO)
  | [_, _] => exact ok_bind_iff (P := PO) fun e => ok_bind_iff (P := PO) fun e => ok_some (P := PO)
  | _ :: _ :: _ :: _ => exact ok_none (P := PO)
def KDrop (PO : Out → Prop) : RV × Env → Prop := fun a => PO (.nx a.2)
def KRet (PO : Out → Prop) : RV × Env → Prop := fun a => PO (.rt a.1 a.2)
theorem k_drop : KDrop PO (r, e) ↔ PO (.nx e) := Iff.rfl
theorem k_ret : KRet PO (r, e) ↔ PO (.rt r e) := Iff.rfl
theorem w_drop : Ok (fDrop f env) PO ↔ Ok (f env) (KDrop PO) := by
  unfold fDrop
  simp only [ok_bind, ok_some]
  exact Iff.rfl
theorem w_ret : Ok (fRet f env) PO ↔ Ok (f env) (KRet PO) := by
  unfold fRet
  simp only [ok_bind, ok_some]
  exact Iff.rfl
theorem w_next : Ok (fNext env) PO ↔ PO (.nx env) := ok_some
/-- what follows a statement -/
def SeqK (h : SFn) (P : Out → Prop) : Out → Prop
  | .nx e => Ok (h e) P
  | .rt r e => P (.rt r e)
  | .bk e => P (.bk e)
  | .ct e => P (.ct e)
theorem w_seq : Ok (fSeq g h env) PO ↔ Ok (g env) (SeqK h PO) := by
  unfold fSeq
  rw [ok_bind]
  constructor <;> intro z <;> refine ok_mono z fun o z => ?_
  · cases o <;> first | exact z | exact (ok_some (P := PO)).mp z
  · cases o <;> first | exact z | exact (ok_some (P := PO)).mpr z
theorem k_nx : SeqK h PO (.nx e) ↔ Ok (h e) PO := Iff.rfl
theorem k_rt : SeqK h PO (.rt r e) ↔ PO (.rt r e) := Iff.rfl
theorem k_bk : SeqK h PO (.bk e) ↔ PO (.bk e) := Iff.rfl
theorem k_ct : SeqK h PO (.ct e) ↔ PO (.ct e) := Iff.rfl
def KIf (g h : SFn) (PO : Out → Prop) : Bool × Env → Prop := fun b => (b.1 = true → Ok (g b.2) PO) ∧ (b.1 = false → Ok (h b.2) PO)
theorem k_if {b : Bool} : KIf g h PO (b, e) ↔ (b = true → Ok (g e) PO) ∧ (b = false → Ok (h e) PO) := Iff.rfl
theorem w_if : Ok (fIf ft g h env) PO ↔ Ok (ft env) (KIf g h PO) := by
  unfold fIf
  simp only [ok_bind, ok_ite, Bool.not_eq_true]
  exact Iff.rfl
/-- xs[k] = d -/
def setF (k : Int) (d : D) : List D → Option (List D) := fun ds => (ixN ds.length k).bind fun j => some (ds.set j d)
def KSetB (i : Nat) (r : RV) (PO : Out → Prop) : RV × Env → Prop := fun b => match frz r, b.1 with
  | .val d, .val (.int k) => Ok (upO i (setF k d) b.2) (KNx PO)
  | _, _ => False
def KSet (i : Nat) (fk : EF) (PO : Out → Prop) : RV × Env → Prop := fun a => isOwn a.2 i = true ∧ Ok (fk a.2) (KSetB i a.1 PO)
theorem k_setB {i : Nat} {d : D} {k : Int} : KSetB i (.val d) PO (.val (.int k), e) ↔ Ok (upO i (setF k d) e) (KNx PO) := Iff.rfl
theorem k_set {i : Nat} {fk : EF} : KSet i fk PO (r, e) ↔ isOwn e i = true ∧ Ok (fk e) (KSetB i r PO) := Iff.rfl
theorem w_setI {i : Nat} {fk fe : EF} : Ok (fSetI i fk fe env) PO ↔ Ok (fe env) (KSet i fk PO) := by
  refine ok_bind_iff fun ⟨r, e⟩ => ?_
  rw [ok_guard]
  refine and_congr_right fun _ => ok_bind_iff fun ⟨r', e'⟩ => ?_
  cases r with
  | ex n => first | exact ok_none (P := PO) | exact ok_none (P := PT) | exact ok_none (P := PP) | exact ok_none (P := PI) | exact ok_none (P := PF) | exact ok_none (P := P) | exact ok_none | (cases r' <;> exact ok_none (P := PO))
  | val d =>
    cases r' with
    | ex n => first | exact ok_none (P := PO) | exact ok_none (P := PT) | exact ok_none (P := PP) | exact ok_none (P := PI) | exact ok_none (P := PF) | exact ok_none (P := P) | exact ok_none | (cases r' <;> exact ok_none (P := PO))
    | val k => cases k <;> first | exact ok_bind_iff (P := PO) fun e => ok_some (P := PO) | exact ok_none (P := PO)
    | slot i => exact ok_none (P := PO)
    | new ds => exact ok_none (P := PO)
    | tw ds => first | (exact ok_none (P := PO)) | exact ok_none (P := PO) | exact ok_none (P := PT) | exact ok_none (P := PP) | exact ok_none (P := PI) | exact ok_none (P := PF) | exact ok_none (P := P) | exact ok_none
  | slot i => cases r' <;> exact ok_none (P := PO)
  | new ds =>
    cases r' with
    | ex n => first | exact ok_none (P := PO) | exact ok_none (P := PT) | exact ok_none (P := PP) | exact ok_none (P := PI) | exact ok_none (P := PF) | exact ok_none (P := P) | exact ok_none | (cases r' <;> exact ok_none (P := PO))
    | val k => cases k <;> first | exact ok_bind_iff (P := PO) fun e => ok_some (P := PO) | exact ok_none (P := PO)
    | slot i => exact ok_none (P := PO)
    | new ds => exact ok_none (P := PO)
    | tw ds => first | (exact ok_none (P := PO)) | exact ok_none (P := PO) | exact ok_none (P := PT) | exact ok_none (P := PP) | exact ok_none (P := PI) | exact ok_none (P := PF) | exact ok_none (P := P) | exact ok_none
  | tw ds =>
    cases r' with
    | ex n => first | exact ok_none (P := PO) | exact ok_none (P := PT) | exact ok_none (P := PP) | exact ok_none (P := PI) | exact ok_none (P := PF) | exact ok_none (P := P) | exact ok_none | (cases r' <;> exact ok_none (P := PO))
    | val k => cases k <;> first | exact ok_bind_iff (P := PO) fun e => ok_some (P := PO) | exact ok_none (P := PO)
    | slot i => exact ok_none (P := PO)
    | new ds => exact ok_none (P := PO)
    | tw ds => first | (exact ok_none (P := PO)) | exact ok_none (P := PO) | exact ok_none (P := PT) | exact ok_none (P := PP) | exact ok_none (P := PI) | exact ok_none (P := PF) | exact ok_none (P := P) | exact ok_none
def KNon (P : RV × Env → Prop) : Env → Prop := fun e => P (.val .non, e)
theorem k_non : KNon P e ↔ P (.val .non, e) := Iff.rfl
def KOM (i : Nat) (k : D → List D → Option (List D)) (P : RV × Env → Prop) : RV × Env → Prop := fun a => match frz a.1 with
  | .val d => Ok (upO i (k d) a.2) (KNon P)
  | _ => False
theorem k_om {i : Nat} {k : D → List D → Option (List D)} {d : D} : KOM i k P (.val d, e) ↔ Ok (upO i (k d) e) (KNon P) := Iff.rfl
theorem k_omN {i : Nat} {k : D → List D → Option (List D)} {ds : List D} : KOM i k P (.new ds, e) ↔ Ok (upO i (k (.lst ds)) e) (KNon P) := Iff.rfl
theorem w_om {i : Nat} {k : D → List D → Option (List D)} : Ok (fOM i k f env) P ↔ isOwn env i = true ∧ Ok (f env) (KOM i k P) := by
  unfold fOM
  rw [ok_guard]
  refine and_congr_right fun _ => ok_bind_iff fun ⟨r, e⟩ => ?_
  cases r with
  | ex n => first | exact ok_none (P := PO) | exact ok_none (P := PT) | exact ok_none (P := PP) | exact ok_none (P := PI) | exact ok_none (P := PF) | exact ok_none (P := P) | exact ok_none | (cases r' <;> exact ok_none (P := PO))
  | val d => exact ok_bind_iff (P := P) fun e => ok_some (P := P)
  | slot i => exact ok_none (P := P)
  | new ds => exact ok_bind_iff (P := P) fun e => ok_some (P := P)
  | tw ds => first | (exact ok_bind_iff (P := P) fun e => ok_some (P := P)) | exact ok_none (P := PO) | exact ok_none (P := PT) | exact ok_none (P := PP) | exact ok_none (P := PI) | exact ok_none (P := PF) | exact ok_none (P := P) | exact ok_none
theorem w_om0 {i : Nat} {k : List D → Option (List D)} : Ok (fOM0 i k env) P ↔ Ok (upO i k env) (KNon P) := by
  unfold fOM0
  simp only [ok_bind, ok_some]
  exact Iff.rfl
/-- slices -/
def DS (g : GS) (x : Option D) (lo hi : Option Int) (e : Env) (P : RV × Env → Prop) : Prop := match x with
  | some x => Ok (g x lo hi) (KZ e P)
  | _ => False
theorem d_s {g : GS} {x : D} {lo hi : Option Int} : DS g (some x) lo hi e P ↔ Ok (g x lo hi) (KZ e P) := Iff.rfl
def KSlc (g : GS) (r : RV) (lo : Option Int) (P : RV × Env → Prop) : Option Int × Env → Prop := fun c => DS g (deref c.2 (frz r)) lo c.1 c.2 P
def KSlb (g : GS) (r : RV) (fh : OF) (P : RV × Env → Prop) : Option Int × Env → Prop := fun b => Ok (fh b.2) (KSlc g r b.1 P)
def KSl (g : GS) (fl fh : OF) (P : RV × Env → Prop) : RV × Env → Prop := fun a => Ok (fl a.2) (KSlb g a.1 fh P)
theorem k_slc {g : GS} {lo hi : Option Int} : KSlc g r lo P (hi, e) ↔ DS g (deref e (frz r)) lo hi e P := Iff.rfl
theorem k_slb {g : GS} {fh : OF} {lo : Option Int} : KSlb g r fh P (lo, e) ↔ Ok (fh e) (KSlc g r lo P) := Iff.rfl
theorem k_sl {g : GS} {fl fh : OF} : KSl g fl fh P (r, e) ↔ Ok (fl e) (KSlb g r fh P) := Iff.rfl
theorem w_sl {g : GS} {fl fh : OF} : Ok (fSl g f fl fh env) P ↔ Ok (f env) (KSl g fl fh P) := by
  unfold fSl
  rw [ok_bind]
  constructor <;> intro z <;> refine ok_mono z fun a z => ?_
  · rw [ok_bind] at z
    refine ok_mono z fun b z => ?_
    rw [ok_bind] at z
    refine ok_mono z fun c z => ?_
    obtain ⟨q, e, p⟩ := z
    obtain ⟨x, e1, e⟩ := bnd e
    obtain ⟨w, e3, e⟩ := bnd e
    cases e
    show DS g _ _ _ _ P
    rw [e1]
    exact ⟨w, e3, p⟩
  · rw [ok_bind]
    refine ok_mono z fun b z => ?_
    rw [ok_bind]
    refine ok_mono z fun c z => ?_
    have z' : DS g (deref c.2 (frz a.1)) b.1 c.1 c.2 P := z
    unfold DS at z'
    split at z'
    · rename_i x h1
      obtain ⟨w, e3, p⟩ := z'
      exact ⟨(w, c.2), by rw [h1]; simp [e3], p⟩
    · exact z'.elim
theorem w_noP : Ok (fNoP env) PP ↔ PP (none, env) := ok_some
def KPt (PP : Option Int × Env → Prop) : RV × Env → Prop := fun a => match a.1 with
  | .val (.int i) => PP (some i, a.2)
  | _ => False
theorem k_pt {i : Int} : KPt PP (.val (.int i), e) ↔ PP (some i, e) := Iff.rfl
theorem w_pt : Ok (fPt f env) PP ↔ Ok (f env) (KPt PP) := by
  refine ok_bind_iff fun ⟨r, e⟩ => ?_
  cases r with
  | ex n => first | exact ok_none (P := PO) | exact ok_none (P := PT) | exact ok_none (P := PP) | exact ok_none (P := PI) | exact ok_none (P := PF) | exact ok_none (P := P) | exact ok_none | (cases r' <;> exact ok_none (P := PO))
  | val d => cases d <;> first | exact ok_some (P := PP) | exact ok_none (P := PP)
  | slot i => exact ok_none (P := PP)
  | new ds => exact ok_none (P := PP)
  | tw ds => first | (exact ok_none (P := PP)) | exact ok_none (P := PO) | exact ok_none (P := PT) | exact ok_none (P := PP) | exact ok_none (P := PI) | exact ok_none (P := PF) | exact ok_none (P := P) | exact ok_none
def gIsi (T : String) : G1 := fun d => (kitD d T).bind fun b => some (.val (.bl b))
theorem w_isi {T : String} : Ok (fIsi T f env) P ↔ Ok (f env) (K1 (gIsi T) P) := by
  rw [← w_1]
  have : fIsi T f env = f1 (gIsi T) f env := by
    unfold fIsi f1 gIsi
    congr 1
    funext a
    congr 1
    funext x
    cases kitD x T <;> rfl
  rw [this]
/-- calls -/
def KRes (bor : List Nat) (outs : List (List D)) (r : D × Bool × List (List D)) (P : RV × Env → Prop) : Env → Prop := fun e => match resR r with
  | some z => (lentOk bor z && outs.all (fun ds => bor.isEmpty || noLs ds)) = true ∧ P (z, e)
  | none => False
def KBack (ios bor : List Nat) (e : Env) (P : RV × Env → Prop) : D × Bool × List (List D) → Prop := fun r => Ok (putOuts ios r.2.2 e) (KRes bor r.2.2 r P)
def QArg (g : FF) (e : Env) (P : RV × Env → Prop) : List D × List Nat × List Nat → Prop := fun x => (decide x.2.1.Nodup && decide (∀ i, i ∈ x.2.1 → i ∉ x.2.2)) = true ∧ Ok (g x.1) (KBack x.2.1 x.2.2 e P)
def KCall (io : List Bool) (g : FF) (P : RV × Env → Prop) : List RV × Env → Prop := fun a => Ok (argD a.2 io a.1) (QArg g a.2 P)
theorem k_call {io : List Bool} {g : FF} : KCall io g P (rs, e) ↔ Ok (argD e io rs) (QArg g e P) := Iff.rfl
theorem q_arg {g : FF} {ds : List D} {ios bor : List Nat} : QArg g e P (ds, ios, bor) ↔ (decide ios.Nodup && decide (∀ i, i ∈ ios → i ∉ bor)) = true ∧ Ok (g ds) (KBack ios bor e P) := Iff.rfl
theorem k_back {ios bor : List Nat} {d : D} {fr : Bool} {outs : List (List D)} : KBack ios bor e P (d, fr, outs) ↔ Ok (putOuts ios outs e) (KRes bor outs (d, fr, outs) P) := Iff.rfl
theorem k_resF {bor : List Nat} {outs outs' : List (List D)} {d : D} : KRes bor outs (d, false, outs') P e ↔ ((bor.isEmpty || noL d) && outs.all (fun ds => bor.isEmpty || noLs ds)) = true ∧ P (.val d, e) := by
  unfold KRes resR
  cases d <;> exact Iff.rfl
theorem k_resT {bor : List Nat} {outs outs' : List (List D)} {ds : List D} : KRes bor outs (.lst ds, true, outs') P e ↔ ((bor.isEmpty || noLs ds) && outs.all (fun ds => bor.isEmpty || noLs ds)) = true ∧ P (.new ds, e) := Iff.rfl
theorem w_call {io : List Bool} {g : FF} : Ok (fCall io g fr env) P ↔ Ok (fr env) (KCall io g P) := by
  unfold fCall
  simp only [ok_bind, ok_some, ok_guard]
  constructor <;> intro z <;> refine ok_mono z fun a z => ?_
  · refine ok_mono z fun x z => ⟨z.1, ok_mono z.2 fun r z => ok_mono z fun e z => ?_⟩
    obtain ⟨w, h, z⟩ := z
    unfold KRes
    rw [h]
    exact z
  · refine ok_mono z fun x z => ⟨z.1, ok_mono z.2 fun r z => ok_mono z fun e z => ?_⟩
    unfold KRes at z
    split at z
    · exact ⟨_, by assumption, z⟩
    · exact z.elim
/-- loops, comprehensions -/
def KLc3 (e0 : Env) (vs : List Nat) (P : RV × Env → Prop) : List D × Env → Prop := fun r => r.1.length ≤ 10000000 ∧ P (.new r.1, restE e0 vs r.2)
def KLc2 (k : GF) (tt : TF) (f : EF) (vs : List Nat) (ds : List D) (e0 : Env) (P : RV × Env → Prop) : Env → Prop := fun w => Ok (lcN k tt f vs ds w) (KLc3 e0 vs P)
def KLc (k : GF) (tt : TF) (f : EF) (vs : List Nat) (P : RV × Env → Prop) : List D × Env → Prop := fun a => Ok (wipeO vs a.2) (KLc2 k tt f vs a.1 a.2 P)
theorem k_lc {k : GF} {tt : TF} {vs : List Nat} {ds : List D} : KLc k tt f vs P (ds, e) ↔ Ok (wipeO vs e) (KLc2 k tt f vs ds e P) := Iff.rfl
theorem k_lc2 {k : GF} {tt : TF} {vs : List Nat} {ds : List D} {e0 : Env} : KLc2 k tt f vs ds e0 P e ↔ Ok (lcN k tt f vs ds e) (KLc3 e0 vs P) := Iff.rfl
theorem k_lc3 {vs : List Nat} {ds : List D} {e0 : Env} : KLc3 e0 vs P (ds, e) ↔ ds.length ≤ 10000000 ∧ P (.new ds, restE e0 vs e) := Iff.rfl
theorem w_lc {fi : IF} {k : GF} {tt : TF} {vs : List Nat} : Ok (fLc fi k tt f vs env) P ↔ Ok (fi env) (KLc k tt f vs P) := by
  unfold fLc
  simp only [ok_bind, ok_some, ok_guard]
  exact Iff.rfl
def KFor (k : GF) (g : SFn) (PO : Out → Prop) : List D × Env → Prop := fun a => Ok (loopN k g a.1 a.2) PO
theorem k_for {k : GF} {ds : List D} : KFor k g PO (ds, e) ↔ Ok (loopN k g ds e) PO := Iff.rfl
theorem w_for {fi : IF} {k : GF} : Ok (fFor fi k g env) PO ↔ Ok (fi env) (KFor k g PO) := by
  unfold fFor
  simp only [ok_bind]
  exact Iff.rfl
theorem w_while {fuel : Env → Nat} : Ok (fWhile fuel ft g env) PO ↔ Ok (whileN ft g (fuel env) env) PO := Iff.rfl
def QR1 (e : Env) (PI : List D × Env → Prop) : List D → Prop := fun ds => match ds with
  | [.int j] => (-1000000000000 ≤ j ∧ j ≤ 1000000000000) ∧ PI (rangeD 0 j.toNat, e)
  | _ => False
theorem q_r1 {j : Int} : QR1 e PI [.int j] ↔ (-1000000000000 ≤ j ∧ j ≤ 1000000000000) ∧ PI (rangeD 0 j.toNat, e) := Iff.rfl
def KR1 (PI : List D × Env → Prop) : List RV × Env → Prop := fun a => DV (allVal a.1) (QR1 a.2 PI)
theorem k_r1 : KR1 PI (rs, e) ↔ DV (allVal rs) (QR1 e PI) := Iff.rfl
theorem w_range1 : Ok (fRange1 fr env) PI ↔ Ok (fr env) (KR1 PI) := by
  refine ok_bind_iff fun ⟨rs, e⟩ => ?_
  refine Iff.trans (ok_bind_iff (K := QR1 e PI) fun ds => ?_) dv_ok.symm
  match ds with
  | [] => exact ok_none (P := PI)
  | [d] =>
    cases d with
    | int j => exact Iff.trans ok_guard (and_congr_right fun _ => ok_some (P := PI))
    | _ => exact ok_none (P := PI)
  | d :: _ :: _ => cases d <;> exact ok_none (P := PI)
def KIL (PI : List D × Env → Prop) : RV × Env → Prop := fun a => match frz a.1 with
  | .val (.lst ds) => PI (ds, a.2)
  | _ => False
theorem k_il {ds : List D} : KIL PI (.val (.lst ds), e) ↔ PI (ds, e) := Iff.rfl
theorem k_ilN {ds : List D} : KIL PI (.new ds, e) ↔ PI (ds, e) := Iff.rfl
theorem w_iterL : Ok (fIterL f env) PI ↔ Ok (f env) (KIL PI) := by
  refine ok_bind_iff fun ⟨r, e⟩ => ?_
  cases r with
  | ex n => first | exact ok_none (P := PO) | exact ok_none (P := PT) | exact ok_none (P := PP) | exact ok_none (P := PI) | exact ok_none (P := PF) | exact ok_none (P := P) | exact ok_none | (cases r' <;> exact ok_none (P := PO))
  | val d => cases d <;> first | exact ok_some (P := PI) | exact ok_none (P := PI)
  | slot i => exact ok_none (P := PI)
  | new ds => first | exact ok_some (P := PI) | exact ok_none (P := PI)
  | tw ds => first | (first | exact ok_some (P := PI) | exact ok_none (P := PI)) | exact ok_none (P := PO) | exact ok_none (P := PT) | exact ok_none (P := PP) | exact ok_none (P := PI) | exact ok_none (P := PF) | exact ok_none (P := P) | exact ok_none
def KIT (PI : List D × Env → Prop) : RV × Env → Prop := fun a => match frz a.1 with
  | .val (.tup ds) => PI (ds, a.2)
  | .val (.nt ds) => PI (ds, a.2)
  | _ => False
theorem k_itN {ds : List D} : KIT PI (.val (.nt ds), e) ↔ PI (ds, e) := Iff.rfl
theorem k_it {ds : List D} : KIT PI (.val (.tup ds), e) ↔ PI (ds, e) := Iff.rfl
theorem w_iterT : Ok (fIterT f env) PI ↔ Ok (f env) (KIT PI) := by
  refine ok_bind_iff fun ⟨r, e⟩ => ?_
  cases r with
  | ex n => first | exact ok_none (P := PO) | exact ok_none (P := PT) | exact ok_none (P := PP) | exact ok_none (P := PI) | exact ok_none (P := PF) | exact ok_none (P := P) | exact ok_none | (cases r' <;> exact ok_none (P := PO))
  | val d => cases d <;> first | exact ok_some (P := PI) | exact ok_none (P := PI)
  | slot i => exact ok_none (P := PI)
  | new ds => first | exact ok_some (P := PI) | exact ok_none (P := PI)
  | tw ds => first | (first | exact ok_some (P := PI) | exact ok_none (P := PI)) | exact ok_none (P := PO) | exact ok_none (P := PT) | exact ok_none (P := PP) | exact ok_none (P := PI) | exact ok_none (P := PF) | exact ok_none (P := P) | exact ok_none
/-- a def -/
def outF (io : List Bool) (d : D) (fr : Bool) (e : Env) (P : D × Bool × List (List D) → Prop) : Prop := match outE e (ioIx 0 io) with
  | some outs => P (d, fr, outs)
  | none => False
def KFin (io : List Bool) (P : D × Bool × List (List D) → Prop) : Out → Prop
  | .nx e => outF io .non false e P
  | .rt (.val d) e => outF io d false e P
  | .rt (.new es) e => outF io (.lst es) true e P
  | .rt (.tw dss) e => outF io (.tup (dss.map D.lst)) true e P
  | .rt (.slot i) e => match e[i]? with
    | some (.o1 es) => outF io (.lst es) true e P
    | _ => False
  | _ => False
variable {PF : D × Bool × List (List D) → Prop} {io : List Bool}
theorem k_finN : KFin io PF (.nx e) ↔ outF io .non false e PF := Iff.rfl
theorem k_finV {d : D} : KFin io PF (.rt (.val d) e) ↔ outF io d false e PF := Iff.rfl
theorem k_finW {ds : List D} : KFin io PF (.rt (.new ds) e) ↔ outF io (.lst ds) true e PF := Iff.rfl
theorem k_finT {dss : List (List D)} : KFin io PF (.rt (.tw dss) e) ↔ outF io (.tup (dss.map D.lst)) true e PF := Iff.rfl
theorem k_finS {i : Nat} : KFin io PF (.rt (.slot i) e) ↔ (match e[i]? with | some (.o1 es) => outF io (.lst es) true e PF | _ => False) := Iff.rfl
theorem out_ok {d : D} {fr : Bool} : outF io d fr e PF ↔ Ok ((outE e (ioIx 0 io)).bind fun outs => some (d, fr, outs)) PF := by
  unfold outF
  split
  · rename_i h
    rw [h]
    exact ok_some.symm
  · rename_i h
    rw [h]
    exact ok_none.symm
theorem w_def {m : Nat} {b : SFn} {ds : List D} {e0 : Env} (he : argS io ds = some e0) : Ok (fDef m io b ds) PF ↔ Ok (b (e0 ++ List.replicate m .no)) (KFin io PF) := by
  unfold fDef
  rw [he, Option.bind_some]
  refine ok_bind_iff fun o => ?_
  cases o with
  | nx e => exact out_ok.symm
  | rt r e =>
    cases r with
    | ex n => first | exact ok_none (P := PO) | exact ok_none (P := PT) | exact ok_none (P := PP) | exact ok_none (P := PI) | exact ok_none (P := PF) | exact ok_none (P := P) | exact ok_none | (cases r' <;> exact ok_none (P := PO))
    | val d => exact out_ok.symm
    | new ds => exact out_ok.symm
    | tw ds => first | (exact out_ok.symm) | exact ok_none (P := PO) | exact ok_none (P := PT) | exact ok_none (P := PP) | exact ok_none (P := PI) | exact ok_none (P := PF) | exact ok_none (P := P) | exact ok_none
    | slot i =>
      cases h : e[i]? with
      | none =>
        show Ok (match e[i]? with | some (.o1 es) => (outE e (ioIx 0 io)).bind fun outs => some (.lst es, true, outs) | _ => none) PF ↔ (match e[i]? with | some (.o1 es) => outF io (.lst es) true e PF | _ => False)
        rw [h]
        exact ok_none
      | some s =>
        show Ok (match e[i]? with | some (.o1 es) => (outE e (ioIx 0 io)).bind fun outs => some (.lst es, true, outs) | _ => none) PF ↔ (match e[i]? with | some (.o1 es) => outF io (.lst es) true e PF | _ => False)
        rw [h]
        cases s <;> first | exact out_ok.symm | exact ok_none
  | bk e => exact ok_none (P := PF)
  | ct e => exact ok_none (P := PF)
end
theorem gEq_int {i j : Int} : gEq (.int i) (.int j) = some (.val (.bl (decide (i = j)))) := by
  have h3 : eqD (.int i) (.int j) = decide (i = j) := by
    show (i == j) = decide (i = j)
    exact (Bool.beq_eq_decide_eq i j)
  show some (RV.val (D.bl (eqD (.int i) (.int j)))) = _
  rw [h3]
theorem gNe_int {i j : Int} : gNe (.int i) (.int j) = some (.val (.bl (!decide (i = j)))) := by
  have h3 : eqD (.int i) (.int j) = decide (i = j) := by
    show (i == j) = decide (i = j)
    exact (Bool.beq_eq_decide_eq i j)
  show some (RV.val (D.bl (!eqD (.int i) (.int j)))) = _
  rw [h3]
theorem gAdd_int {i j : Int} : gAdd (.int i) (.int j) = some (.val (.int (i + j))) := rfl
theorem gSub_int {i j : Int} : gSub (.int i) (.int j) = some (.val (.int (i - j))) := rfl
theorem gMul_int {i j : Int} : gMul (.int i) (.int j) = if mulB i j = true then some (.val (.int (i * j))) else none := by
  unfold gMul gI gRep
  simp only [Option.or_none]
theorem gDiv_int {i j : Int} : gDiv (.int i) (.int j) = if divB i j = true then some (.val (.int (i.fdiv j))) else none := rfl
theorem gMod_int {i j : Int} : gMod (.int i) (.int j) = if modB i j = true then some (.val (.int (i.fmod j))) else none := rfl
theorem gPow_int {i j : Int} : gPow (.int i) (.int j) = if powB i j = true then some (.val (.int (i ^ j.toNat))) else none := rfl
theorem gLt_int {i j : Int} : gLt (.int i) (.int j) = some (.val (.bl (decide (i < j)))) := rfl
theorem gLe_int {i j : Int} : gLe (.int i) (.int j) = some (.val (.bl (decide (i ≤ j)))) := rfl
theorem gGt_int {i j : Int} : gGt (.int i) (.int j) = some (.val (.bl (decide (j < i)))) := rfl
theorem gGe_int {i j : Int} : gGe (.int i) (.int j) = some (.val (.bl (decide (j ≤ i)))) := rfl
section
variable {α : Type} {x0 x1 x2 x3 x4 x5 x6 x7 : α} {r : List α}
theorem atI_1 : L2.atI (x0 :: x1 :: r) 1 = some x1 := (atI_natC (i := 1)).trans rfl
theorem atI_2 : L2.atI (x0 :: x1 :: x2 :: r) 2 = some x2 := (atI_natC (i := 2)).trans rfl
theorem atI_3 : L2.atI (x0 :: x1 :: x2 :: x3 :: r) 3 = some x3 := (atI_natC (i := 3)).trans rfl
theorem atI_4 : L2.atI (x0 :: x1 :: x2 :: x3 :: x4 :: r) 4 = some x4 := (atI_natC (i := 4)).trans rfl
theorem atI_5 : L2.atI (x0 :: x1 :: x2 :: x3 :: x4 :: x5 :: r) 5 = some x5 := (atI_natC (i := 5)).trans rfl
theorem atI_6 : L2.atI (x0 :: x1 :: x2 :: x3 :: x4 :: x5 :: x6 :: r) 6 = some x6 := (atI_natC (i := 6)).trans rfl
theorem atI_7 : L2.atI (x0 :: x1 :: x2 :: x3 :: x4 :: x5 :: x6 :: x7 :: r) 7 = some x7 := (atI_natC (i := 7)).trans rfl
theorem atI_neg {xs : List α} : L2.atI xs (-1) = xs.getLast? := by
  cases xs with
  | nil => rfl
  | cons a l =>
    unfold L2.atI L2.ixN
    rw [if_neg (by decide), if_pos (by simp only [List.length_cons]; omega), List.getLast?_eq_getElem?]
    show (a :: l)[((-1 : Int) + ((a :: l).length : Nat)).toNat]? = _
    congr 1
    simp only [List.length_cons]
    omega
theorem ixN_of {n : Nat} {i : Nat} (h : i < n) : L2.ixN n (i : Int) = some i := by
  unfold L2.ixN
  rw [if_pos (by omega), if_pos (by omega)]
  simp
end
theorem ixN20 : L2.ixN 2 0 = some 0 := rfl
theorem ixN21 : L2.ixN 2 1 = some 1 := rfl
/-- sizes -/
theorem log2_le {n k : Nat} (h : n < 2 ^ k) : n.log2 ≤ k := by
  by_cases h0 : n = 0
  · subst h0
    simp
  · exact Nat.le_of_lt ((Nat.log2_lt h0).mpr h)
theorem mulB_of {i j : Int} {a b : Nat} (hi : i.natAbs < 2 ^ a) (hj : j.natAbs < 2 ^ b) (h : a + b ≤ 134000000) : mulB i j = true := by
  have h1 := log2_le hi
  have h2 := log2_le hj
  exact decide_eq_true (by omega)
theorem modB_of {i j : Int} (h : j ≠ 0) : modB i j = true := decide_eq_true h
theorem divB_of {i j : Int} (h : j ≠ 0) (h2 : j.natAbs < 2 ^ 8999) : divB i j = true := by
  unfold divB
  rw [decide_eq_true h, decide_eq_true (Nat.lt_succ_of_le (log2_le h2))]
  rfl
theorem powB_of {i : Int} {n a : Nat} (hi : i.natAbs < 2 ^ a) (h : (a + 1) * n ≤ 134217728) : powB i (n : Int) = true := by
  unfold powB
  have h1 := log2_le hi
  rw [decide_eq_true (Int.natCast_nonneg n), decide_eq_true]
  · rfl
  · have : ((i.natAbs.log2 + 1 : Nat) : Int) * (n : Int) = (((i.natAbs.log2 + 1) * n : Nat) : Int) := by simp
    rw [this]
    have h3 : (i.natAbs.log2 + 1) * n ≤ (a + 1) * n := Nat.mul_le_mul_right n (by omega)
    omega
/-- small numbers -/
theorem p40 : (10 : Nat) ^ 40 < 2 ^ 133 := by decide +kernel
theorem nat40 {i : Int} (h1 : -(10 ^ 40) ≤ i) (h2 : i ≤ 10 ^ 40) : i.natAbs < 2 ^ 133 := Nat.lt_of_le_of_lt (by omega) p40
theorem mul40 {i j : Int} (h1 : -(10 ^ 40) ≤ i) (h2 : i ≤ 10 ^ 40) (h3 : -(10 ^ 40) ≤ j) (h4 : j ≤ 10 ^ 40) : mulB i j = true := mulB_of (nat40 h1 h2) (nat40 h3 h4) (by decide)
theorem div40 {i j : Int} (h0 : 0 < j) (h2 : j ≤ 10 ^ 40) : divB i j = true := divB_of (by omega) (Nat.lt_trans (nat40 (by omega) h2) (Nat.pow_lt_pow_right (by decide) (by decide)))
theorem fmod_nn {a b : Int} (h : 0 < b) : 0 ≤ a.fmod b ∧ a.fmod b < b := by
  rw [Int.fmod_eq_emod_of_nonneg a (Int.le_of_lt h)]
  exact ⟨Int.emod_nonneg a (by omega), Int.emod_lt_of_pos a h⟩
theorem fdiv_nn {a b : Int} (ha : 0 ≤ a) (h : 0 < b) : 0 ≤ a.fdiv b := by
  rw [Int.fdiv_eq_ediv_of_nonneg a (Int.le_of_lt h)]
  exact Int.ediv_nonneg ha (Int.le_of_lt h)
section
variable {env e : Env} {k : GF} {g : SFn} {d : D} {ds : List D} {P : Out → Prop} {r : RV}
def KTurn (k : GF) (g : SFn) (ds : List D) (P : Out → Prop) : Out → Prop
  | .nx e => Ok (loopN k g ds e) P
  | .ct e => Ok (loopN k g ds e) P
  | .bk e => P (.nx e)
  | .rt r e => P (.rt r e)
def KTgt (k : GF) (g : SFn) (ds : List D) (P : Out → Prop) : Env → Prop := fun e => Ok (g e) (KTurn k g ds P)
theorem k_tgt : KTgt k g ds P e ↔ Ok (g e) (KTurn k g ds P) := Iff.rfl
theorem k_tnx : KTurn k g ds P (.nx e) ↔ Ok (loopN k g ds e) P := Iff.rfl
theorem k_tct : KTurn k g ds P (.ct e) ↔ Ok (loopN k g ds e) P := Iff.rfl
theorem k_tbk : KTurn k g ds P (.bk e) ↔ P (.nx e) := Iff.rfl
theorem k_trt : KTurn k g ds P (.rt r e) ↔ P (.rt r e) := Iff.rfl
theorem w_loop0 : Ok (loopN k g [] env) P ↔ P (.nx env) := ok_some
theorem w_loop1 : Ok (loopN k g (d :: ds) env) P ↔ Ok (k d env) (KTgt k g ds P) := by
  show Ok ((k d env).bind _) P ↔ _
  refine ok_bind_iff fun e => ok_bind_iff fun o => ?_
  cases o with
  | nx e => exact Iff.rfl
  | ct e => exact Iff.rfl
  | bk e => exact ok_some (P := P)
  | rt r e => exact ok_some (P := P)
end
section
variable {env e : Env} {P : RV × Env → Prop} {K : Env → Prop} {x : SV} {s : SV} {i : Nat} {h : List D → Option (List D)}
def KIx (e : Env) (P : RV × Env → Prop) : D → Prop := fun d => P (.val d, e)
def KIxI (e : Env) (P : RV × Env → Prop) : Int → Prop := fun d => P (.val (.int d), e)
theorem k_ix {d : D} : KIx e P d ↔ P (.val d, e) := Iff.rfl
theorem k_ixI {d : Int} : KIxI e P d ↔ P (.val (.int d), e) := Iff.rfl
theorem w_ixL {ds : List D} {k : Int} : Ok (gIx (.lst ds) (.int k)) (KZ e P) ↔ Ok (L2.atI ds k) (KIx e P) := ok_bind_iff fun d => ok_some
theorem w_ixT {ds : List D} {k : Int} : Ok (gIx (.tup ds) (.int k)) (KZ e P) ↔ Ok (L2.atI ds k) (KIx e P) := ok_bind_iff fun d => ok_some
theorem w_ixN {ds : List D} {k : Int} : Ok (gIx (.nt ds) (.int k)) (KZ e P) ↔ Ok (L2.atI ds k) (KIx e P) := ok_bind_iff fun d => ok_some
theorem w_ixS {ds : List Int} {k : Int} : Ok (gIx (.scr ds) (.int k)) (KZ e P) ↔ Ok (L2.atI ds k) (KIxI e P) := ok_bind_iff fun d => ok_some
def KCx (x : SV) (K : Env → Prop) : Env → Prop := fun e => K (x :: e)
theorem k_cx : KCx x K e ↔ K (x :: e) := Iff.rfl
theorem w_put0 : Ok (putS 0 s (x :: env)) K ↔ freeP x = true ∧ K (s :: env) := by
  rw [putS_0, ok_guard, ok_some]
theorem w_putS : Ok (putS (i + 1) s (x :: env)) K ↔ Ok (putS i s env) (KCx x K) := by
  rw [putS_s]
  exact ok_bind_iff fun e => ok_some
def KO1 (env : Env) (K : Env → Prop) : List D → Prop := fun es => K (.o1 es :: env)
def KIo (env : Env) (K : Env → Prop) : List D → Prop := fun es => K (.io es :: env)
theorem k_o1 {es : List D} : KO1 env K es ↔ K (.o1 es :: env) := Iff.rfl
theorem k_io {es : List D} : KIo env K es ↔ K (.io es :: env) := Iff.rfl
theorem w_upo {ds : List D} : Ok (upO 0 h (.o1 ds :: env)) K ↔ Ok (h ds) (KO1 env K) := by
  rw [upO_0]
  exact ok_bind_iff fun e => ok_some
theorem w_upi {ds : List D} : Ok (upO 0 h (.io ds :: env)) K ↔ Ok (h ds) (KIo env K) := by
  rw [upO_0]
  exact ok_bind_iff fun e => ok_some
theorem w_upS : Ok (upO (i + 1) h (x :: env)) K ↔ Ok (upO i h env) (KCx x K) := by
  rw [upO_s]
  exact ok_bind_iff fun e => ok_some
/-- an own list changed at a place -/
def KSt (d : D) (ds : List D) (Q : List D → Prop) : Nat → Prop := fun j => Q (ds.set j d)
theorem k_st {d : D} {ds : List D} {Q : List D → Prop} {j : Nat} : KSt d ds Q j ↔ Q (ds.set j d) := Iff.rfl
theorem w_setF {k : Int} {d : D} {ds : List D} {Q : List D → Prop} : Ok (setF k d ds) Q ↔ Ok (L2.ixN ds.length k) (KSt d ds Q) := ok_bind_iff fun j => ok_some
theorem w_app {d : D} {ds : List D} {Q : List D → Prop} : Ok (hApp d ds) Q ↔ ds.length ≤ 10000000 ∧ Q (ds ++ [d]) := by
  unfold hApp
  rw [ok_guard, ok_some]
theorem w_ext {es : List D} {ds : List D} {Q : List D → Prop} : Ok (hExt (.lst es) ds) Q ↔ ds.length + es.length ≤ 10000000 ∧ Q (ds ++ es) := by
  unfold hExt
  dsimp only
  rw [ok_guard, ok_some]
/-- wiping -/
def KWp (v : Nat) (K : Env → Prop) : Env → Prop := fun e => Ok (putS v .no e) K
theorem k_wp {v : Nat} : KWp v K e ↔ Ok (putS v .no e) K := Iff.rfl
theorem w_wipe0 : Ok (wipeO [] env) K ↔ K env := ok_some
theorem w_wipe1 {v : Nat} {vs : List Nat} : Ok (wipeO (v :: vs) env) K ↔ Ok (wipeO vs env) (KWp v K) := ok_bind_iff fun e => Iff.rfl
/-- own lists handed back -/
def KOuts (is : List Nat) (dss : List (List D)) (K : Env → Prop) : Env → Prop := fun e => Ok (putOuts is dss e) K
theorem k_outs {is : List Nat} {dss : List (List D)} : KOuts is dss K e ↔ Ok (putOuts is dss e) K := Iff.rfl
def hCon (ds : List D) : List D → Option (List D) := fun _ => some ds
theorem w_con {ds es : List D} {Q : List D → Prop} : Ok (hCon ds es) Q ↔ Q ds := ok_some
theorem w_outs0 : Ok (putOuts [] [] env) K ↔ K env := ok_some
theorem w_outs1 {is : List Nat} {dss : List (List D)} {ds : List D} : Ok (putOuts (i :: is) (ds :: dss) env) K ↔ Ok (upO i (hCon ds) env) (KOuts is dss K) := ok_bind_iff fun e => Iff.rfl
end
section
variable {env e : Env} {P : RV × Env → Prop} {K : Env → Prop} {fr : AF} {rs : List RV}
def KDr (z : RV) (P : RV × Env → Prop) : Env → Prop := fun e => P (z, e)
theorem k_dr {z : RV} : KDr z P e ↔ P (z, e) := Iff.rfl
theorem w_drop0 : Ok (dropAll [] env) K ↔ K env := ok_some
theorem w_drop1 {v : Nat} {vs : List Nat} : Ok (dropAll (v :: vs) env) K ↔ Ok (dropAll vs env) (KWp v K) := ok_bind_iff fun e => Iff.rfl
def KResM (bor : List Nat) (outs : List (List D)) (r : D × Bool × List (List D)) (P : RV × Env → Prop) : Env → Prop := fun e => match resR r with
  | some z => outs.all (fun ds => bor.isEmpty || noLs ds) = true ∧ Ok (dropAll bor e) (KDr z P)
  | none => False
def KBackM (ios bor : List Nat) (e : Env) (P : RV × Env → Prop) : D × Bool × List (List D) → Prop := fun r => Ok (putOuts ios r.2.2 e) (KResM bor r.2.2 r P)
def QArgM (g : FF) (e : Env) (P : RV × Env → Prop) : List D × List Nat × List Nat → Prop := fun x => (decide x.2.1.Nodup && decide (∀ i, i ∈ x.2.1 → i ∉ x.2.2)) = true ∧ Ok (g x.1) (KBackM x.2.1 x.2.2 e P)
def KCallM (io : List Bool) (g : FF) (P : RV × Env → Prop) : List RV × Env → Prop := fun a => Ok (argD a.2 io a.1) (QArgM g a.2 P)
theorem k_callM {io : List Bool} {g : FF} : KCallM io g P (rs, e) ↔ Ok (argD e io rs) (QArgM g e P) := Iff.rfl
theorem q_argM {g : FF} {ds : List D} {ios bor : List Nat} : QArgM g e P (ds, ios, bor) ↔ (decide ios.Nodup && decide (∀ i, i ∈ ios → i ∉ bor)) = true ∧ Ok (g ds) (KBackM ios bor e P) := Iff.rfl
theorem k_backM {ios bor : List Nat} {d : D} {fr : Bool} {outs : List (List D)} : KBackM ios bor e P (d, fr, outs) ↔ Ok (putOuts ios outs e) (KResM bor outs (d, fr, outs) P) := Iff.rfl
theorem k_resMF {bor : List Nat} {outs outs' : List (List D)} {d : D} : KResM bor outs (d, false, outs') P e ↔ outs.all (fun ds => bor.isEmpty || noLs ds) = true ∧ Ok (dropAll bor e) (KDr (.val d) P) := by
  unfold KResM resR
  cases d <;> exact Iff.rfl
theorem k_resMT {bor : List Nat} {outs outs' : List (List D)} {ds : List D} : KResM bor outs (.lst ds, true, outs') P e ↔ outs.all (fun ds => bor.isEmpty || noLs ds) = true ∧ Ok (dropAll bor e) (KDr (.new ds) P) := Iff.rfl
theorem w_callM {io : List Bool} {g : FF} : Ok (fCallM io g fr env) P ↔ Ok (fr env) (KCallM io g P) := by
  unfold fCallM
  simp only [ok_bind, ok_some, ok_guard]
  constructor <;> intro z <;> refine ok_mono z fun a z => ?_
  · refine ok_mono z fun x z => ⟨z.1, ok_mono z.2 fun r z => ok_mono z fun e z => ?_⟩
    obtain ⟨w, h, z⟩ := z
    unfold KResM
    rw [h]
    exact z
  · refine ok_mono z fun x z => ⟨z.1, ok_mono z.2 fun r z => ok_mono z fun e z => ?_⟩
    unfold KResM at z
    split at z
    · exact ⟨_, by assumption, z⟩
    · exact z.elim
theorem w_mv {i : Nat} : Ok (fMv i env) P ↔ (match env[i]? with | some (.o1 ds) => Ok (dropAll [i] env) (KDr (.val (.lst ds)) P) | _ => False) := by
  unfold fMv
  cases env[i]? with
  | none => exact ok_none
  | some v => cases v <;> first | exact ok_none | exact ok_bind_iff fun e => ok_some
end
/-! enumerate, zip, reversed -/
section
variable {env e : Env} {PI : List D × Env → Prop} {fr : AF} {rs : List RV}
def QEn (e : Env) (PI : List D × Env → Prop) : List D → Prop := fun ds => match ds with
  | [.lst ds] => PI (enumD 0 ds, e)
  | _ => False
theorem q_en {ds : List D} : QEn e PI [.lst ds] ↔ PI (enumD 0 ds, e) := Iff.rfl
def KEn (PI : List D × Env → Prop) : List RV × Env → Prop := fun a => DV (allVal a.1) (QEn a.2 PI)
theorem k_en : KEn PI (rs, e) ↔ DV (allVal rs) (QEn e PI) := Iff.rfl
theorem w_enum : Ok (fEnum fr env) PI ↔ Ok (fr env) (KEn PI) := by
  refine ok_bind_iff fun ⟨rs, e⟩ => ?_
  refine Iff.trans (ok_bind_iff (K := QEn e PI) fun ds => ?_) dv_ok.symm
  match ds with
  | [] => exact ok_none (P := PI)
  | [d] => cases d <;> first | exact ok_some (P := PI) | exact ok_none (P := PI)
  | d :: _ :: _ => cases d <;> exact ok_none (P := PI)
def QZp (e : Env) (PI : List D × Env → Prop) : List D → Prop := fun ds => match ds with
  | [.lst ds, .lst es] => PI (zipD ds es, e)
  | _ => False
theorem q_zp {ds es : List D} : QZp e PI [.lst ds, .lst es] ↔ PI (zipD ds es, e) := Iff.rfl
def KZp (PI : List D × Env → Prop) : List RV × Env → Prop := fun a => DV (allVal a.1) (QZp a.2 PI)
theorem k_zp : KZp PI (rs, e) ↔ DV (allVal rs) (QZp e PI) := Iff.rfl
theorem w_zip : Ok (fZip fr env) PI ↔ Ok (fr env) (KZp PI) := by
  refine ok_bind_iff fun ⟨rs, e⟩ => ?_
  refine Iff.trans (ok_bind_iff (K := QZp e PI) fun ds => ?_) dv_ok.symm
  match ds with
  | [] => exact ok_none (P := PI)
  | [d] => cases d <;> exact ok_none (P := PI)
  | [d, d'] => cases d <;> cases d' <;> first | exact ok_some (P := PI) | exact ok_none (P := PI)
  | d :: d' :: _ :: _ => cases d <;> cases d' <;> exact ok_none (P := PI)
def QRv (e : Env) (PI : List D × Env → Prop) : List D → Prop := fun ds => match ds with
  | [.lst ds] => PI (ds.reverse, e)
  | _ => False
theorem q_rv {ds : List D} : QRv e PI [.lst ds] ↔ PI (ds.reverse, e) := Iff.rfl
def KRv (PI : List D × Env → Prop) : List RV × Env → Prop := fun a => DV (allVal a.1) (QRv a.2 PI)
theorem k_rv : KRv PI (rs, e) ↔ DV (allVal rs) (QRv e PI) := Iff.rfl
theorem w_rev : Ok (fRev fr env) PI ↔ Ok (fr env) (KRv PI) := by
  refine ok_bind_iff fun ⟨rs, e⟩ => ?_
  refine Iff.trans (ok_bind_iff (K := QRv e PI) fun ds => ?_) dv_ok.symm
  match ds with
  | [] => exact ok_none (P := PI)
  | [d] => cases d <;> first | exact ok_some (P := PI) | exact ok_none (P := PI)
  | d :: _ :: _ => cases d <;> exact ok_none (P := PI)
def QR2 (e : Env) (PI : List D × Env → Prop) : List D → Prop := fun ds => match ds with
  | [.int i, .int j] => (-1000000000000 ≤ i ∧ i ≤ 1000000000000 ∧ -1000000000000 ≤ j ∧ j ≤ 1000000000000) ∧ PI (rangeD i (j - i).toNat, e)
  | _ => False
theorem q_r2 {i j : Int} : QR2 e PI [.int i, .int j] ↔ (-1000000000000 ≤ i ∧ i ≤ 1000000000000 ∧ -1000000000000 ≤ j ∧ j ≤ 1000000000000) ∧ PI (rangeD i (j - i).toNat, e) := Iff.rfl
def KR2 (PI : List D × Env → Prop) : List RV × Env → Prop := fun a => DV (allVal a.1) (QR2 a.2 PI)
theorem k_r2 : KR2 PI (rs, e) ↔ DV (allVal rs) (QR2 e PI) := Iff.rfl
theorem w_range2 : Ok (fRange2 fr env) PI ↔ Ok (fr env) (KR2 PI) := by
  refine ok_bind_iff fun ⟨rs, e⟩ => ?_
  refine Iff.trans (ok_bind_iff (K := QR2 e PI) fun ds => ?_) dv_ok.symm
  match ds with
  | [] => exact ok_none (P := PI)
  | [d] => cases d <;> exact ok_none (P := PI)
  | [d, d'] =>
    cases d with
    | int i =>
      cases d' with
      | int j => exact Iff.trans ok_guard (and_congr_right fun _ => ok_some (P := PI))
      | _ => exact ok_none (P := PI)
    | _ => exact ok_none (P := PI)
  | d :: d' :: _ :: _ => cases d <;> cases d' <;> exact ok_none (P := PI)
def QR3 (e : Env) (PI : List D × Env → Prop) : List D → Prop := fun ds => match ds with
  | [.int i, .int j, .int c] => (c ≠ 0 ∧ c.natAbs < 1073741824 ∧ Builtin.Range.small i j c = true ∧ 0 ≤ Builtin.Range.rangeSize i j c) ∧ PI (rangeC i c (Builtin.Range.rangeSize i j c).toNat, e)
  | _ => False
theorem q_r3 {i j c : Int} : QR3 e PI [.int i, .int j, .int c] ↔ (c ≠ 0 ∧ c.natAbs < 1073741824 ∧ Builtin.Range.small i j c = true ∧ 0 ≤ Builtin.Range.rangeSize i j c) ∧ PI (rangeC i c (Builtin.Range.rangeSize i j c).toNat, e) := Iff.rfl
def KR3 (PI : List D × Env → Prop) : List RV × Env → Prop := fun a => DV (allVal a.1) (QR3 a.2 PI)
theorem k_r3 : KR3 PI (rs, e) ↔ DV (allVal rs) (QR3 e PI) := Iff.rfl
theorem w_range3 : Ok (fRange3 fr env) PI ↔ Ok (fr env) (KR3 PI) := by
  refine ok_bind_iff fun ⟨rs, e⟩ => ?_
  refine Iff.trans (ok_bind_iff (K := QR3 e PI) fun ds => ?_) dv_ok.symm
  match ds with
  | [] => exact ok_none (P := PI)
  | [d] => cases d <;> exact ok_none (P := PI)
  | [d, d'] => cases d <;> cases d' <;> exact ok_none (P := PI)
  | [d, d', d''] =>
    cases d with
    | int i =>
      cases d' with
      | int j =>
        cases d'' with
        | int c => exact Iff.trans ok_guard (and_congr_right fun _ => ok_some (P := PI))
        | _ => exact ok_none (P := PI)
      | _ => exact ok_none (P := PI)
    | _ => exact ok_none (P := PI)
  | d :: d' :: d'' :: _ :: _ => cases d <;> cases d' <;> cases d'' <;> exact ok_none (P := PI)
/-- targets that are tuples -/
def KGC (h : List D → Env → Option Env) (r : List D) (K : Env → Prop) : Env → Prop := fun e => Ok (h r e) K
theorem k_gc {h : List D → Env → Option Env} {r : List D} {K : Env → Prop} : KGC h r K e ↔ Ok (h r e) K := Iff.rfl
theorem w_gcons {g : GF} {h : List D → Env → Option Env} {d : D} {r : List D} {K : Env → Prop} : Ok (gfCons g h (d :: r) env) K ↔ Ok (g d env) (KGC h r K) := ok_bind_iff fun e => Iff.rfl
theorem w_gnil {K : Env → Prop} : Ok (gfNil [] env) K ↔ K env := ok_some
theorem w_gtupN {n : Nat} {h : List D → Env → Option Env} {ds : List D} {K : Env → Prop} : Ok (gfTup n h (.nt ds) env) K ↔ ds.length = n ∧ Ok (h ds env) K := ok_guard
theorem w_gtup {n : Nat} {h : List D → Env → Option Env} {ds : List D} {K : Env → Prop} : Ok (gfTup n h (.tup ds) env) K ↔ ds.length = n ∧ Ok (h ds env) K := ok_guard
end
section
variable {env e : Env} {PO : Out → Prop} {g h : SFn} {J : Env → Prop} {r : RV}
theorem w_cut : Ok (fCut g env) PO ↔ Ok (g env) PO := Iff.rfl
def KJ (J : Env → Prop) (PO : Out → Prop) : Out → Prop
  | .nx e => J e
  | .rt r e => PO (.rt r e)
  | .bk e => PO (.bk e)
  | .ct e => PO (.ct e)
theorem k_jnx : KJ J PO (.nx e) ↔ J e := Iff.rfl
theorem k_jrt : KJ J PO (.rt r e) ↔ PO (.rt r e) := Iff.rfl
theorem k_jbk : KJ J PO (.bk e) ↔ PO (.bk e) := Iff.rfl
theorem k_jct : KJ J PO (.ct e) ↔ PO (.ct e) := Iff.rfl
/-- ways meet: what holds behind the if is said once -/
theorem cut_seq (J : Env → Prop) (h1 : Ok (g env) (KJ J PO)) (h2 : ∀ e, J e → Ok (h e) PO) : Ok (fCut (fSeq g h) env) PO := by
  refine w_seq.mpr (ok_mono h1 fun o ho => ?_)
  cases o with
  | nx e => exact h2 e ho
  | rt r e => exact ho
  | bk e => exact ho
  | ct e => exact ho
end
theorem gIs_bl {a b : Bool} : gIs (.bl a) (.bl b) = some (.val (.bl (decide (a = b)))) := rfl
theorem gIsnt_bl {a b : Bool} : gIsnt (.bl a) (.bl b) = some (.val (.bl (!decide (a = b)))) := rfl
theorem gIs_no {d : D} : gIs d .non = some (.val (.bl (isNon d))) := by cases d <;> rfl
theorem gIsnt_no {d : D} : gIsnt d .non = some (.val (.bl (!isNon d))) := by cases d <;> rfl
theorem gEq_bl {a b : Bool} : gEq (.bl a) (.bl b) = some (.val (.bl (decide (a = b)))) := by
  have h3 : eqD (.bl a) (.bl b) = decide (a = b) := by
    show (a == b) = decide (a = b)
    exact (Bool.beq_eq_decide_eq a b)
  show some (RV.val (D.bl (eqD (.bl a) (.bl b)))) = _
  rw [h3]
theorem gNe_bl {a b : Bool} : gNe (.bl a) (.bl b) = some (.val (.bl (!decide (a = b)))) := by
  have h3 : eqD (.bl a) (.bl b) = decide (a = b) := by
    show (a == b) = decide (a = b)
    exact (Bool.beq_eq_decide_eq a b)
  show some (RV.val (D.bl (!eqD (.bl a) (.bl b)))) = _
  rw [h3]
end Dv

namespace Dv
open PySem L2

/-! ### data: sizes, equality -/
def Shp (k : Nat) (d : D) : Prop := PyData.canLay0 (toPy d) = true ∧ PyData.depth (toPy d) ≤ k
theorem shp_of {k : Nat} {d : D} (h : Shp k d) (hk : k ≤ 64) : shp d = true := by
  unfold shp SeqAt.shaped
  rw [h.1, Bool.true_and]
  exact decide_eq_true (Nat.le_trans h.2 hk)
theorem Shp.mono {k l : Nat} {d : D} (h : Shp k d) (hk : k ≤ l) : Shp l d := ⟨h.1, Nat.le_trans h.2 hk⟩
theorem shp_int {i : Int} : Shp 0 (.int i) := ⟨rfl, Nat.le_refl 0⟩
theorem shp_bl {i : Bool} : Shp 0 (.bl i) := ⟨rfl, Nat.le_refl 0⟩
theorem shp_non : Shp 0 .non := ⟨rfl, Nat.le_refl 0⟩
theorem shp_all {k : Nat} : ∀ {ds : List D}, (∀ d, d ∈ ds → Shp k d) → PyData.canLayAll0 (toPys ds) = true ∧ PyData.depthAll (toPys ds) ≤ k
  | [], _ => ⟨rfl, Nat.zero_le _⟩
  | d :: ds, h => by
    obtain ⟨h1, h2⟩ := h d List.mem_cons_self
    obtain ⟨h3, h4⟩ := shp_all (ds := ds) fun e he => h e (List.mem_cons_of_mem _ he)
    simp only [toPys, PyData.canLayAll0, PyData.depthAll, h1, h3, Bool.and_self, true_and]
    exact Nat.max_le.mpr ⟨h2, h4⟩
theorem shp_lst {k : Nat} {ds : List D} (h : ∀ d, d ∈ ds → Shp k d) : Shp (k + 1) (.lst ds) := by
  obtain ⟨h1, h2⟩ := shp_all h
  unfold Shp
  simp only [toPy, PyData.canLay0, PyData.depth]
  exact ⟨h1, Nat.succ_le_succ h2⟩
theorem shp_tup {k : Nat} {ds : List D} (h : ∀ d, d ∈ ds → Shp k d) : Shp (k + 1) (.tup ds) := by
  obtain ⟨h1, h2⟩ := shp_all h
  unfold Shp
  simp only [toPy, PyData.canLay0, PyData.depth]
  exact ⟨h1, Nat.succ_le_succ h2⟩
def eqA (as bs : List D) : Bool := PyData.eqvAll (toPys as) (toPys bs)
theorem eqD_lst {as bs : List D} : eqD (.lst as) (.lst bs) = eqA as bs := by
  unfold eqD eqA
  simp only [toPy, PyData.eqv]
theorem eqD_tup {as bs : List D} : eqD (.tup as) (.tup bs) = eqA as bs := by
  unfold eqD eqA
  simp only [toPy, PyData.eqv]
theorem eqD_int {i j : Int} : eqD (.int i) (.int j) = decide (i = j) := by
  show (i == j) = decide (i = j)
  exact Bool.beq_eq_decide_eq i j
theorem eqA_nil : eqA [] [] = true := rfl
theorem eqA_cons {a b : D} {as bs : List D} : eqA (a :: as) (b :: bs) = (eqD a b && eqA as bs) := by
  unfold eqA eqD
  simp only [toPys, PyData.eqvAll]
theorem eqA_nc {a : D} {as : List D} : eqA [] (a :: as) = false := by
  unfold eqA
  simp only [toPys, PyData.eqvAll]
theorem eqA_cn {a : D} {as : List D} : eqA (a :: as) [] = false := by
  unfold eqA
  simp only [toPys, PyData.eqvAll]
theorem eqA_map {α : Type} [DecidableEq α] {f : α → D} (h : ∀ a b, eqD (f a) (f b) = decide (a = b)) : ∀ as bs : List α, eqA (as.map f) (bs.map f) = decide (as = bs)
  | [], [] => rfl
  | [], b :: bs => by rw [List.map_nil, List.map_cons, eqA_nc]; exact (decide_eq_false (by simp)).symm
  | a :: as, [] => by rw [List.map_nil, List.map_cons, eqA_cn]; exact (decide_eq_false (by simp)).symm
  | a :: as, b :: bs => by
    rw [List.map_cons, List.map_cons, eqA_cons, h, eqA_map h as bs]
    by_cases h1 : a = b <;> by_cases h2 : as = bs <;> simp [h1, h2]
theorem gEq_of {d e : D} {b : Bool} (h1 : shp d = true) (h2 : shp e = true) (h : eqD d e = b) : gEq d e = some (.val (.bl b)) := by
  unfold gEq
  rw [h1, h2, h]
  rfl
theorem gNe_of {d e : D} {b : Bool} (h1 : shp d = true) (h2 : shp e = true) (h : eqD d e = b) : gNe d e = some (.val (.bl (!b))) := by
  unfold gNe
  rw [h1, h2, h]
  rfl
/-! ### ratios, lines -/
abbrev R := Int × Int
def encR (p : R) : D := .tup [.int p.1, .int p.2]
def encL (xs : List R) : D := .lst (xs.map encR)
theorem shp_R (p : R) : Shp 1 (encR p) := shp_tup fun d h => by
  simp only [List.mem_cons, List.not_mem_nil, or_false] at h
  rcases h with rfl | rfl <;> exact shp_int
theorem shp_L (xs : List R) : Shp 2 (encL xs) := shp_lst fun d h => by
  obtain ⟨p, _, rfl⟩ := List.mem_map.mp h
  exact shp_R p
theorem eqD_R (p q : R) : eqD (encR p) (encR q) = decide (p = q) := by
  unfold encR
  rw [eqD_tup, eqA_cons, eqA_cons, eqD_int, eqD_int, eqA_nil]
  obtain ⟨a, b⟩ := p
  obtain ⟨c, d⟩ := q
  by_cases h1 : a = c <;> by_cases h2 : b = d <;> simp [h1, h2]
theorem eqD_L (xs ys : List R) : eqD (encL xs) (encL ys) = decide (xs = ys) := by
  unfold encL
  rw [eqD_lst]
  exact eqA_map eqD_R xs ys
theorem gEq_R (p q : R) : gEq (encR p) (encR q) = some (.val (.bl (decide (p = q)))) := gEq_of (shp_of (shp_R p) (by decide)) (shp_of (shp_R q) (by decide)) (eqD_R p q)
theorem gEq_L (xs ys : List R) : gEq (encL xs) (encL ys) = some (.val (.bl (decide (xs = ys)))) := gEq_of (shp_of (shp_L xs) (by decide)) (shp_of (shp_L ys) (by decide)) (eqD_L xs ys)
theorem gNe_L (xs ys : List R) : gNe (encL xs) (encL ys) = some (.val (.bl (!decide (xs = ys)))) := gNe_of (shp_of (shp_L xs) (by decide)) (shp_of (shp_L ys) (by decide)) (eqD_L xs ys)
theorem gEq_Lm (xs ys : List R) : gEq (.lst (xs.map encR)) (.lst (ys.map encR)) = some (.val (.bl (decide (xs = ys)))) := gEq_L xs ys
theorem gNe_Lm (xs ys : List R) : gNe (.lst (xs.map encR)) (.lst (ys.map encR)) = some (.val (.bl (!decide (xs = ys)))) := gNe_L xs ys
theorem gEq_Ln (xs : List R) : gEq (.lst (xs.map encR)) (.lst []) = some (.val (.bl (decide (xs = [])))) := gEq_L xs []
theorem gNe_Ln (xs : List R) : gNe (.lst (xs.map encR)) (.lst []) = some (.val (.bl (!decide (xs = [])))) := gNe_L xs []
theorem noLs_R (xs : List R) : noLs (xs.map encR) = true := by
  induction xs with
  | nil => rfl
  | cons x xs ih =>
    rw [List.map_cons]
    unfold noLs
    rw [ih]
    rfl
theorem noL_R (x : R) : noL (encR x) = true := rfl
/-! ### slices -/
theorem cutD_to {α : Type} (xs : List α) (n : Nat) : cutD xs none (some (n : Int)) = xs.take n := by
  unfold cutD
  rw [HT.sIx_none, HT.sIx_nat]
  simp only [List.drop_zero, Nat.sub_zero]
  by_cases h : n ≤ xs.length
  · rw [Nat.min_eq_left h]
  · rw [Nat.min_eq_right (by omega), List.take_of_length_le (Nat.le_refl _), List.take_of_length_le (by omega)]
theorem cutD_from {α : Type} (xs : List α) (n : Nat) : cutD xs (some (n : Int)) none = xs.drop n := by
  unfold cutD
  rw [HT.sIx_none, HT.sIx_nat]
  by_cases h : n ≤ xs.length
  · rw [Nat.min_eq_left h, List.take_of_length_le (by rw [List.length_drop]; exact Nat.le_refl _)]
  · rw [Nat.min_eq_right (by omega), List.drop_length, List.drop_eq_nil_of_le (by omega), List.take_nil]
theorem cutD_last {α : Type} (xs : List α) : cutD xs none (some (-1)) = xs.dropLast := by
  unfold cutD
  rw [HT.sIx_none, List.dropLast_eq_take]
  simp only [List.drop_zero, Nat.sub_zero]
  congr 1
  unfold HT.sIx
  simp only
  rw [if_pos (by decide)]
  omega
theorem cutD_map {α β : Type} (f : α → β) (xs : List α) (lo hi : Option Int) : cutD (xs.map f) lo hi = (cutD xs lo hi).map f := by
  unfold cutD
  rw [List.length_map, List.map_take, List.map_drop]
theorem getLast_map {α β : Type} (f : α → β) (xs : List α) : (xs.map f).getLast? = xs.getLast?.map f := by
  rw [List.getLast?_eq_getElem?, List.getLast?_eq_getElem?, List.length_map, List.getElem?_map]
/-! ### an item at a place that lies in the list -/
theorem ok_atI {α : Type} {xs : List α} {i : Int} {P : α → Prop} (h0 : 0 ≤ i) (h1 : i < xs.length) (h : ∀ x, xs[i.toNat]? = some x → P x) : Ok (L2.atI xs i) P := by
  have e : i = ((i.toNat : Nat) : Int) := by omega
  have hl : i.toNat < xs.length := by omega
  have e2 : L2.atI xs i = xs[i.toNat]? := by
    conv => lhs; rw [e]
    exact atI_natC
  exact ⟨xs[i.toNat], e2.trans (List.getElem?_eq_getElem hl), h _ (List.getElem?_eq_getElem hl)⟩
/-! ### loops -/
def KLT (I : Env → Prop) (P : Out → Prop) : Out → Prop
  | .nx e => I e
  | .ct e => I e
  | .bk e => P (.nx e)
  | .rt r e => P (.rt r e)
def KLB (b : SFn) (I : Env → Prop) (P : Out → Prop) : Env → Prop := fun e => Ok (b e) (KLT I P)
section
variable {e : Env} {r : RV} {I : Env → Prop} {P : Out → Prop} {b : SFn}
theorem k_lnx : KLT I P (.nx e) ↔ I e := Iff.rfl
theorem k_lct : KLT I P (.ct e) ↔ I e := Iff.rfl
theorem k_lbk : KLT I P (.bk e) ↔ P (.nx e) := Iff.rfl
theorem k_lrt : KLT I P (.rt r e) ↔ P (.rt r e) := Iff.rfl
theorem k_lb : KLB b I P e ↔ Ok (b e) (KLT I P) := Iff.rfl
end
theorem loop_inv {g : GF} {b : SFn} {P : Out → Prop} (Inv : Nat → Env → Prop) : ∀ (items : List D) (n : Nat) (env : Env), Inv n env →
    (∀ (i : Nat) (d : D) (env : Env), items[i]? = some d → Inv (n + i) env → Ok (g d env) (KLB b (Inv (n + i + 1)) P)) →
    (∀ env, Inv (n + items.length) env → P (.nx env)) → Ok (loopN g b items env) P
  | [], n, env, h0, _, hf => ok_some.mpr (hf env h0)
  | d :: ds, n, env, h0, hs, hf => by
    unfold loopN
    rw [ok_bind]
    refine ok_mono (hs 0 d env rfl h0) fun e he => ?_
    rw [ok_bind]
    refine ok_mono (Q := fun o => Ok _ P) he fun o ho => ?_
    have go := fun e (he : Inv (n + 1) e) => loop_inv (g := g) (b := b) (P := P) Inv ds (n + 1) e he (fun i d env hd hi => by
      have := hs (i + 1) d env (by simpa using hd) (by rw [show n + (i + 1) = n + 1 + i by omega]; exact hi)
      rw [show n + (i + 1) = n + 1 + i by omega] at this
      exact this) (fun env h => hf env (by rw [List.length_cons, show n + (ds.length + 1) = n + 1 + ds.length by omega]; exact h))
    cases o with
    | nx e => exact go e ho
    | ct e => exact go e ho
    | bk e => exact ok_some.mpr ho
    | rt r e => exact ok_some.mpr ho
/-- a comprehension: each turn gives an item, the state keeps its word -/
def KV3 (Inv : List D → Env → Prop) (acc : List D) : Env → Prop := fun w => Inv acc w
def KV2 (vs : List Nat) (Inv : List D → Env → Prop) (acc : List D) : RV × Env → Prop := fun a => ∃ y, frz a.1 = .val y ∧ Ok (wipeO vs a.2) (KV3 Inv (acc ++ [y]))
def KV1 (fe : EF) (vs : List Nat) (Inv : List D → Env → Prop) (acc : List D) : Bool × Env → Prop := fun b => (b.1 = true → Ok (fe b.2) (KV2 vs Inv acc)) ∧ (b.1 = false → Ok (wipeO vs b.2) (KV3 Inv acc))
def KV0 (tt : TF) (fe : EF) (vs : List Nat) (Inv : List D → Env → Prop) (acc : List D) : Env → Prop := fun e => Ok (tt e) (KV1 fe vs Inv acc)
section
variable {e : Env} {vs : List Nat} {Inv : List D → Env → Prop} {acc ds : List D} {fe : EF} {tt : TF} {d : D} {b : Bool}
theorem k_v3 : KV3 Inv acc e ↔ Inv acc e := Iff.rfl
theorem k_v2 : KV2 vs Inv acc (.val d, e) ↔ Ok (wipeO vs e) (KV3 Inv (acc ++ [d])) := ⟨fun ⟨y, h1, h2⟩ => by cases h1; exact h2, fun h => ⟨d, rfl, h⟩⟩
theorem k_v2n : KV2 vs Inv acc (.new ds, e) ↔ Ok (wipeO vs e) (KV3 Inv (acc ++ [.lst ds])) := ⟨fun ⟨y, h1, h2⟩ => by cases h1; exact h2, fun h => ⟨.lst ds, rfl, h⟩⟩
theorem k_v1 : KV1 fe vs Inv acc (b, e) ↔ (b = true → Ok (fe e) (KV2 vs Inv acc)) ∧ (b = false → Ok (wipeO vs e) (KV3 Inv acc)) := Iff.rfl
theorem k_v0 : KV0 tt fe vs Inv acc e ↔ Ok (tt e) (KV1 fe vs Inv acc) := Iff.rfl
end
theorem lc_inv {g : GF} {tt : TF} {fe : EF} {vs : List Nat} {P : List D × Env → Prop} (Inv : Nat → List D → Env → Prop) : ∀ (items : List D) (n : Nat) (acc : List D) (env : Env), Inv n acc env →
    (∀ (i : Nat) (d : D) (acc : List D) (env : Env), items[i]? = some d → Inv (n + i) acc env → Ok (g d env) (KV0 tt fe vs (Inv (n + i + 1)) acc)) →
    (∀ out env, Inv (n + items.length) (acc ++ out) env → P (out, env)) → Ok (lcN g tt fe vs items env) P
  | [], n, acc, env, h0, _, hf => ok_some.mpr (hf [] env (by rw [List.append_nil]; exact h0))
  | d :: ds, n, acc, env, h0, hs, hf => by
    unfold lcN
    rw [ok_bind]
    refine ok_mono (hs 0 d acc env rfl h0) fun e he => ?_
    rw [ok_bind]
    refine ok_mono (Q := fun b => Ok _ P) he fun b hb => ?_
    rw [ok_ite]
    have go := fun (acc' : List D) (Q : List D × Env → Prop) e (he : Inv (n + 1) acc' e) hf => lc_inv (g := g) (tt := tt) (fe := fe) (vs := vs) (P := Q) Inv ds (n + 1) acc' e he (fun i d acc env hd hi => by
      have := hs (i + 1) d acc env (by simpa using hd) (by rw [show n + (i + 1) = n + 1 + i by omega]; exact hi)
      rw [show n + (i + 1) = n + 1 + i by omega] at this
      exact this) hf
    constructor
    · intro c
      rw [ok_bind]
      refine ok_mono (hb.1 c) fun a ⟨y, hy, hw⟩ => ?_
      rw [hy]
      rw [ok_bind]
      refine ok_mono (Q := fun b => Ok _ P) hw fun w hw => ?_
      rw [ok_bind]
      refine go (acc ++ [y]) _ w hw fun out env h => ok_some.mpr (hf (y :: out) env ?_)
      rw [List.length_cons, show n + (ds.length + 1) = n + 1 + ds.length by omega]
      simpa using h
    · intro c
      rw [ok_bind]
      refine ok_mono (Q := fun b => Ok _ P) (hb.2 (by simpa using c)) fun w hw => ?_
      refine go acc _ w hw fun out env h => hf out env ?_
      rw [List.length_cons, show n + (ds.length + 1) = n + 1 + ds.length by omega]
      exact h
/-- a loop that goes on while a size falls -/
def KWT (I : Env → Prop) (sz : Env → Nat) (n : Nat) (P : Out → Prop) : Out → Prop
  | .nx e => I e ∧ sz e < n
  | .ct e => I e ∧ sz e < n
  | .bk e => P (.nx e)
  | .rt r e => P (.rt r e)
def KWC (b : SFn) (I : Env → Prop) (sz : Env → Nat) (n : Nat) (P : Out → Prop) : Bool × Env → Prop := fun x => (x.1 = true → Ok (b x.2) (KWT I sz n P)) ∧ (x.1 = false → P (.nx x.2))
section
variable {e : Env} {r : RV} {I : Env → Prop} {P : Out → Prop} {g : SFn} {sz : Env → Nat} {n : Nat} {b : Bool}
theorem k_wnx : KWT I sz n P (.nx e) ↔ I e ∧ sz e < n := Iff.rfl
theorem k_wct : KWT I sz n P (.ct e) ↔ I e ∧ sz e < n := Iff.rfl
theorem k_wbk : KWT I sz n P (.bk e) ↔ P (.nx e) := Iff.rfl
theorem k_wrt : KWT I sz n P (.rt r e) ↔ P (.rt r e) := Iff.rfl
theorem k_wc : KWC g I sz n P (b, e) ↔ (b = true → Ok (g e) (KWT I sz n P)) ∧ (b = false → P (.nx e)) := Iff.rfl
end
theorem while_inv {c : TF} {b : SFn} {P : Out → Prop} (Inv : Env → Prop) (sz : Env → Nat) (hs : ∀ env, Inv env → Ok (c env) (KWC b Inv sz (sz env) P)) : ∀ (n : Nat) (env : Env), Inv env → sz env < n → Ok (whileN c b n env) P
  | 0, env, _, h => by omega
  | n + 1, env, hi, h => by
    unfold whileN
    rw [ok_bind]
    refine ok_mono (Q := fun x => Ok _ P) (hs env hi) fun x hx => ?_
    rw [ok_ite]
    constructor
    · intro q
      rw [ok_bind]
      refine ok_mono (Q := fun x => Ok _ P) (hx.1 q) fun o ho => ?_
      cases o with
      | nx e => exact while_inv Inv sz hs n e ho.1 (by have := ho.2; omega)
      | ct e => exact while_inv Inv sz hs n e ho.1 (by have := ho.2; omega)
      | bk e => exact ok_some.mpr ho
      | rt r e => exact ok_some.mpr ho
    · intro q
      exact ok_some.mpr (hx.2 (by simpa using q))
section
variable {b : Bool} {i : Int} {x : Str} {ds : List D}
theorem isi_int_non : gIsi "int" .non = some (.val (.bl false)) := by
  show (kitB "NoneType" "int").bind _ = _
  rw [show kitB "NoneType" "int" = some false from by decide +kernel]
  rfl
theorem isi_int_bl : gIsi "int" (.bl b) = some (.val (.bl true)) := by
  show (kitB "bool" "int").bind _ = _
  rw [show kitB "bool" "int" = some true from by decide +kernel]
  rfl
theorem isi_int_int : gIsi "int" (.int i) = some (.val (.bl true)) := by
  show (kitB "int" "int").bind _ = _
  rw [show kitB "int" "int" = some true from by decide +kernel]
  rfl
theorem isi_int_str : gIsi "int" (.str x) = some (.val (.bl false)) := by
  show (kitB "str" "int").bind _ = _
  rw [show kitB "str" "int" = some false from by decide +kernel]
  rfl
theorem isi_int_lst : gIsi "int" (.lst ds) = some (.val (.bl false)) := by
  show (kitB "list" "int").bind _ = _
  rw [show kitB "list" "int" = some false from by decide +kernel]
  rfl
theorem isi_int_tup : gIsi "int" (.tup ds) = some (.val (.bl false)) := by
  show (kitB "tuple" "int").bind _ = _
  rw [show kitB "tuple" "int" = some false from by decide +kernel]
  rfl
theorem isi_bool_non : gIsi "bool" .non = some (.val (.bl false)) := by
  show (kitB "NoneType" "bool").bind _ = _
  rw [show kitB "NoneType" "bool" = some false from by decide +kernel]
  rfl
theorem isi_bool_bl : gIsi "bool" (.bl b) = some (.val (.bl true)) := by
  show (kitB "bool" "bool").bind _ = _
  rw [show kitB "bool" "bool" = some true from by decide +kernel]
  rfl
theorem isi_bool_int : gIsi "bool" (.int i) = some (.val (.bl false)) := by
  show (kitB "int" "bool").bind _ = _
  rw [show kitB "int" "bool" = some false from by decide +kernel]
  rfl
theorem isi_bool_str : gIsi "bool" (.str x) = some (.val (.bl false)) := by
  show (kitB "str" "bool").bind _ = _
  rw [show kitB "str" "bool" = some false from by decide +kernel]
  rfl
theorem isi_bool_lst : gIsi "bool" (.lst ds) = some (.val (.bl false)) := by
  show (kitB "list" "bool").bind _ = _
  rw [show kitB "list" "bool" = some false from by decide +kernel]
  rfl
theorem isi_bool_tup : gIsi "bool" (.tup ds) = some (.val (.bl false)) := by
  show (kitB "tuple" "bool").bind _ = _
  rw [show kitB "tuple" "bool" = some false from by decide +kernel]
  rfl
theorem isi_tuple_non : gIsi "tuple" .non = some (.val (.bl false)) := by
  show (kitB "NoneType" "tuple").bind _ = _
  rw [show kitB "NoneType" "tuple" = some false from by decide +kernel]
  rfl
theorem isi_tuple_bl : gIsi "tuple" (.bl b) = some (.val (.bl false)) := by
  show (kitB "bool" "tuple").bind _ = _
  rw [show kitB "bool" "tuple" = some false from by decide +kernel]
  rfl
theorem isi_tuple_int : gIsi "tuple" (.int i) = some (.val (.bl false)) := by
  show (kitB "int" "tuple").bind _ = _
  rw [show kitB "int" "tuple" = some false from by decide +kernel]
  rfl
theorem isi_tuple_str : gIsi "tuple" (.str x) = some (.val (.bl false)) := by
  show (kitB "str" "tuple").bind _ = _
  rw [show kitB "str" "tuple" = some false from by decide +kernel]
  rfl
theorem isi_tuple_lst : gIsi "tuple" (.lst ds) = some (.val (.bl false)) := by
  show (kitB "list" "tuple").bind _ = _
  rw [show kitB "list" "tuple" = some false from by decide +kernel]
  rfl
theorem isi_tuple_tup : gIsi "tuple" (.tup ds) = some (.val (.bl true)) := by
  show (kitB "tuple" "tuple").bind _ = _
  rw [show kitB "tuple" "tuple" = some true from by decide +kernel]
  rfl
theorem isi_list_non : gIsi "list" .non = some (.val (.bl false)) := by
  show (kitB "NoneType" "list").bind _ = _
  rw [show kitB "NoneType" "list" = some false from by decide +kernel]
  rfl
theorem isi_list_bl : gIsi "list" (.bl b) = some (.val (.bl false)) := by
  show (kitB "bool" "list").bind _ = _
  rw [show kitB "bool" "list" = some false from by decide +kernel]
  rfl
theorem isi_list_int : gIsi "list" (.int i) = some (.val (.bl false)) := by
  show (kitB "int" "list").bind _ = _
  rw [show kitB "int" "list" = some false from by decide +kernel]
  rfl
theorem isi_list_str : gIsi "list" (.str x) = some (.val (.bl false)) := by
  show (kitB "str" "list").bind _ = _
  rw [show kitB "str" "list" = some false from by decide +kernel]
  rfl
theorem isi_list_lst : gIsi "list" (.lst ds) = some (.val (.bl true)) := by
  show (kitB "list" "list").bind _ = _
  rw [show kitB "list" "list" = some true from by decide +kernel]
  rfl
theorem isi_list_tup : gIsi "list" (.tup ds) = some (.val (.bl false)) := by
  show (kitB "tuple" "list").bind _ = _
  rw [show kitB "tuple" "list" = some false from by decide +kernel]
  rfl
theorem isi_str_non : gIsi "str" .non = some (.val (.bl false)) := by
  show (kitB "NoneType" "str").bind _ = _
  rw [show kitB "NoneType" "str" = some false from by decide +kernel]
  rfl
theorem isi_str_bl : gIsi "str" (.bl b) = some (.val (.bl false)) := by
  show (kitB "bool" "str").bind _ = _
  rw [show kitB "bool" "str" = some false from by decide +kernel]
  rfl
theorem isi_str_int : gIsi "str" (.int i) = some (.val (.bl false)) := by
  show (kitB "int" "str").bind _ = _
  rw [show kitB "int" "str" = some false from by decide +kernel]
  rfl
theorem isi_str_str : gIsi "str" (.str x) = some (.val (.bl true)) := by
  show (kitB "str" "str").bind _ = _
  rw [show kitB "str" "str" = some true from by decide +kernel]
  rfl
theorem isi_str_lst : gIsi "str" (.lst ds) = some (.val (.bl false)) := by
  show (kitB "list" "str").bind _ = _
  rw [show kitB "list" "str" = some false from by decide +kernel]
  rfl
theorem isi_str_tup : gIsi "str" (.tup ds) = some (.val (.bl false)) := by
  show (kitB "tuple" "str").bind _ = _
  rw [show kitB "tuple" "str" = some false from by decide +kernel]
  rfl
end
/-- a comprehension that gives for each item h of it, and leaves the state -/
theorem lc_map {α : Type} {g : GF} {tt : TF} {fe : EF} {vs : List Nat} {P : List D × Env → Prop} {env : Env} {c : α → D} {h : α → D} {xs : List α}
    (hs : ∀ x, x ∈ xs → ∀ acc, Ok (g (c x) env) (KV0 tt fe vs (fun a e => a = acc ++ [h x] ∧ e = env) acc)) (hf : P (xs.map h, env)) : Ok (lcN g tt fe vs (xs.map c) env) P := by
  refine lc_inv (fun n acc e => acc = (xs.take n).map h ∧ e = env) (xs.map c) 0 [] env ⟨rfl, rfl⟩ (fun i d acc e hd hi => ?_) fun out e hi => ?_
  · obtain ⟨rfl, rfl⟩ := hi
    rw [List.getElem?_map] at hd
    obtain ⟨x, hx, rfl⟩ := Option.map_eq_some_iff.mp hd
    have key : (fun (a : List D) (e' : Env) => a = (xs.take (0 + i)).map h ++ [h x] ∧ e' = e) = (fun (a : List D) (e' : Env) => a = (xs.take (0 + i + 1)).map h ∧ e' = e) := by
      funext a e'
      rw [List.take_add_one, Nat.zero_add, hx, List.map_append]
      rfl
    have := hs x (List.mem_of_getElem? hx) ((xs.take (0 + i)).map h)
    rw [key] at this
    exact this
  · obtain ⟨h1, rfl⟩ := hi
    rw [List.nil_append, Nat.zero_add, List.length_map, List.take_length] at h1
    rw [h1]
    exact hf
theorem allBls_m {α : Type} (f : α → Bool) : ∀ xs : List α, allBls (xs.map fun x => D.bl (f x)) = some (xs.map f)
  | [] => rfl
  | x :: xs => by simp [allBls, allBls_m f xs]
theorem allInts_m {α : Type} (f : α → Int) : ∀ xs : List α, allInts (xs.map fun x => D.int (f x)) = some (xs.map f)
  | [] => rfl
  | x :: xs => by simp [allInts, allInts_m f xs]
theorem free_keep {x : Option SV} : freeP (keepFz x) = true := by
  unfold keepFz
  split <;> rfl
theorem keep_no : keepFz (some .no) = .no := rfl
theorem keep_fz {d : D} : keepFz (some (.fz d)) = .fz d := rfl
theorem keep_o1 {ds : List D} : keepFz (some (.o1 ds)) = .no := rfl
theorem gAdd_lst {a b : List D} : gAdd (.lst a) (.lst b) = if a.length + b.length ≤ 10000000 then some (.new (a ++ b)) else none := by
  unfold gAdd gI0 gCat gCatS
  simp only [Option.none_or, Option.or_none]
theorem gMul_lst {a : List D} {k : Int} : gMul (.lst a) (.int k) = if a.length * k.toNat ≤ 10000000 ∧ -1000000000 ≤ k ∧ k ≤ 1000000000 then some (.new (List.replicate k.toNat a).flatten) else none := by
  unfold gMul gI gRep
  simp only [Option.none_or]
theorem rangeD_get {lo : Int} {n i : Nat} {d : D} (h : (rangeD lo n)[i]? = some d) : i < n ∧ d = .int (lo + (i : Nat)) := by
  unfold rangeD at h
  rw [List.getElem?_map] at h
  obtain ⟨k, h1, h2⟩ := Option.map_eq_some_iff.mp h
  by_cases c : i < n
  · rw [List.getElem?_range c] at h1
    cases h1
    exact ⟨c, h2.symm⟩
  · rw [List.getElem?_eq_none (by simpa using c)] at h1
    cases h1
theorem rangeD_len {lo : Int} {n : Nat} : (rangeD lo n).length = n := by simp [rangeD]
theorem rangeD_1 : rangeD 0 1 = [.int 0] := rfl
theorem rangeD_2 : rangeD 0 2 = [.int 0, .int 1] := rfl
theorem rangeD_3 : rangeD 0 3 = [.int 0, .int 1, .int 2] := rfl
theorem rangeD_4 : rangeD 0 4 = [.int 0, .int 1, .int 2, .int 3] := rfl
end Dv

/-! # wishes: refusals -/
namespace Dv
open PySem L2
section
variable {P : RV × Env → Prop} {PO : Out → Prop} {env e : Env} {f : EF} {fr : AF} {rs : List RV}
theorem w_raise {n : Nat} : Ok (fRaise n env) PO ↔ PO (.rt (.ex n) env) := ok_some
def KDropX (PO : Out → Prop) : RV × Env → Prop := fun a => match a.1 with
  | .ex n => PO (.rt (.ex n) a.2)
  | _ => PO (.nx a.2)
theorem k_dropXe {n : Nat} : KDropX PO (.ex n, e) ↔ PO (.rt (.ex n) e) := Iff.rfl
theorem k_dropXv {d : D} : KDropX PO (.val d, e) ↔ PO (.nx e) := Iff.rfl
theorem k_dropXn {ds : List D} : KDropX PO (.new ds, e) ↔ PO (.nx e) := Iff.rfl
theorem w_dropX : Ok (fDropX f env) PO ↔ Ok (f env) (KDropX PO) := by
  refine ok_bind_iff fun ⟨r, e⟩ => ?_
  cases r <;> exact ok_some (P := PO)
def KAsgX (g : GF) (PO : Out → Prop) : RV × Env → Prop := fun a => match a.1 with
  | .ex n => PO (.rt (.ex n) a.2)
  | .val d => Ok (g d a.2) (KNx PO)
  | .new ds => Ok (g (.lst ds) a.2) (KNx PO)
  | _ => False
theorem k_asgXe {g : GF} {n : Nat} : KAsgX g PO (.ex n, e) ↔ PO (.rt (.ex n) e) := Iff.rfl
theorem k_asgXv {g : GF} {d : D} : KAsgX g PO (.val d, e) ↔ Ok (g d e) (KNx PO) := Iff.rfl
theorem k_asgXn {g : GF} {ds : List D} : KAsgX g PO (.new ds, e) ↔ Ok (g (.lst ds) e) (KNx PO) := Iff.rfl
theorem w_asgX {g : GF} : Ok (fAsgX f g env) PO ↔ Ok (f env) (KAsgX g PO) := by
  refine ok_bind_iff fun ⟨r, e⟩ => ?_
  cases r with
  | ex n => exact ok_some (P := PO)
  | val d => exact ok_bind_iff (P := PO) fun e => ok_some (P := PO)
  | new ds => exact ok_bind_iff (P := PO) fun e => ok_some (P := PO)
  | tw ds => first | (exact ok_bind_iff (P := PO) fun e => ok_some (P := PO)) | exact ok_none (P := PO) | exact ok_none (P := PT) | exact ok_none (P := PP) | exact ok_none (P := PI) | exact ok_none (P := PF) | exact ok_none (P := P) | exact ok_none
  | slot i => exact ok_none (P := PO)
def KBackX (bor : List Nat) (e : Env) (P : RV × Env → Prop) : Except Nat (D × Bool × List (List D)) → Prop
  | .error n => P (.ex n, e)
  | .ok r => r.2.2.isEmpty = true ∧ Ok (resR r) fun z => lentOk bor z = true ∧ P (z, e)
theorem k_backXe {bor : List Nat} {n : Nat} : KBackX bor e P (.error n) ↔ P (.ex n, e) := Iff.rfl
theorem k_backXv {bor : List Nat} {d : D} : KBackX bor e P (.ok (d, false, [])) ↔ (bor.isEmpty || noL d) = true ∧ P (.val d, e) := by
  have : resR (d, false, []) = some (.val d) := by cases d <;> rfl
  show (_ ∧ Ok (resR (d, false, [])) fun z => lentOk bor z = true ∧ P (z, e)) ↔ _
  rw [this, ok_some]
  exact ⟨fun h => h.2, fun h => ⟨rfl, h⟩⟩
theorem k_backXn {bor : List Nat} {ds : List D} : KBackX bor e P (.ok (.lst ds, true, [])) ↔ (bor.isEmpty || noLs ds) = true ∧ P (.new ds, e) := by
  show (_ ∧ Ok (some (RV.new ds)) fun z => lentOk bor z = true ∧ P (z, e)) ↔ _
  rw [ok_some]
  exact ⟨fun h => h.2, fun h => ⟨rfl, h⟩⟩
def QArgX (io : List Bool) (g : FX) (e : Env) (P : RV × Env → Prop) : List D × List Nat × List Nat → Prop := fun x => (x.2.1.isEmpty && io.all (fun b => !b)) = true ∧ Ok (g x.1) (KBackX x.2.2 e P)
theorem q_argX {io : List Bool} {g : FX} {ds : List D} {ios bor : List Nat} : QArgX io g e P (ds, ios, bor) ↔ (ios.isEmpty && io.all (fun b => !b)) = true ∧ Ok (g ds) (KBackX bor e P) := Iff.rfl
def KCallX (io : List Bool) (g : FX) (P : RV × Env → Prop) : List RV × Env → Prop := fun a => Ok (argD a.2 io a.1) (QArgX io g a.2 P)
theorem k_callX {io : List Bool} {g : FX} : KCallX io g P (rs, e) ↔ Ok (argD e io rs) (QArgX io g e P) := Iff.rfl
theorem w_callX {io : List Bool} {g : FX} : Ok (fCallX io g fr env) P ↔ Ok (fr env) (KCallX io g P) := by
  refine ok_bind_iff fun a => ok_bind_iff fun x => ?_
  rw [ok_guard]
  refine and_congr_right fun _ => ok_bind_iff fun r => ?_
  cases r with
  | error n => exact ok_some (P := P)
  | ok r =>
    show Ok (if r.2.2.isEmpty then _ else none) P ↔ _
    rw [ok_guard]
    refine and_congr_right fun _ => ok_bind_iff fun z => ?_
    rw [ok_guard, ok_some]
def KRx (PO : Out → Prop) : RV × Env → Prop := fun a => match a.1 with
  | .ex _ => False
  | r => PO (.rt r a.2)
theorem k_rxv {d : D} : KRx PO (.val d, e) ↔ PO (.rt (.val d) e) := Iff.rfl
theorem k_rxn {ds : List D} : KRx PO (.new ds, e) ↔ PO (.rt (.new ds) e) := Iff.rfl
def KHnd (h : Nat → EF) (n : Nat) (PO : Out → Prop) : Env → Prop := fun e1 => Ok (h n e1) (KRx PO)
theorem k_hnd {h : Nat → EF} {n : Nat} : KHnd h n PO e ↔ Ok (h n e) (KRx PO) := Iff.rfl
def KTry (i : Nat) (ks : List Nat) (h : Nat → EF) (PO : Out → Prop) : Out → Prop
  | .rt (.ex n) e => n ∈ ks ∧ Ok (putS i .no e) (KHnd h n PO)
  | o => PO o
theorem k_tryE {i n : Nat} {ks : List Nat} {h : Nat → EF} : KTry i ks h PO (.rt (.ex n) e) ↔ n ∈ ks ∧ Ok (putS i .no e) (KHnd h n PO) := Iff.rfl
theorem k_tryV {i : Nat} {d : D} {ks : List Nat} {h : Nat → EF} : KTry i ks h PO (.rt (.val d) e) ↔ PO (.rt (.val d) e) := Iff.rfl
theorem k_tryW {i : Nat} {ds : List D} {ks : List Nat} {h : Nat → EF} : KTry i ks h PO (.rt (.new ds) e) ↔ PO (.rt (.new ds) e) := Iff.rfl
theorem k_tryN {i : Nat} {ks : List Nat} {h : Nat → EF} : KTry i ks h PO (.nx e) ↔ PO (.nx e) := Iff.rfl
theorem w_try {i : Nat} {ks : List Nat} {g : SFn} {h : Nat → EF} : Ok (fTry i ks g h env) PO ↔ Ok (g env) (KTry i ks h PO) := by
  refine ok_bind_iff fun o => ?_
  cases o with
  | nx e => exact ok_some (P := PO)
  | bk e => exact ok_some (P := PO)
  | ct e => exact ok_some (P := PO)
  | rt r e =>
    cases r with
    | val d => exact ok_some (P := PO)
    | new ds => exact ok_some (P := PO)
    | tw ds => first | (exact ok_some (P := PO)) | exact ok_none (P := PO) | exact ok_none (P := PT) | exact ok_none (P := PP) | exact ok_none (P := PI) | exact ok_none (P := PF) | exact ok_none (P := P) | exact ok_none
    | slot j => exact ok_some (P := PO)
    | ex n =>
      show Ok (if n ∈ ks then _ else none) PO ↔ _
      rw [ok_guard]
      refine and_congr_right fun _ => ok_bind_iff fun e1 => ok_bind_iff fun ⟨r, e2⟩ => ?_
      cases r with
      | ex m => exact ok_none (P := PO)
      | val d => exact ok_some (P := PO)
      | new ds => exact ok_some (P := PO)
      | tw ds => first | (exact ok_some (P := PO)) | exact ok_none (P := PO) | exact ok_none (P := PT) | exact ok_none (P := PP) | exact ok_none (P := PI) | exact ok_none (P := PF) | exact ok_none (P := P) | exact ok_none
      | slot j => exact ok_some (P := PO)
def KFinX (io : List Bool) (PX : Except Nat (D × Bool × List (List D)) → Prop) : Out → Prop
  | .rt (.ex n) _ => PX (.error n)
  | o => KFin io (fun r => PX (.ok r)) o
theorem k_finE {io : List Bool} {PX : Except Nat (D × Bool × List (List D)) → Prop} {n : Nat} : KFinX io PX (.rt (.ex n) e) ↔ PX (.error n) := Iff.rfl
theorem k_finXo {io : List Bool} {PX : Except Nat (D × Bool × List (List D)) → Prop} {d : D} : KFinX io PX (.rt (.val d) e) ↔ outF io d false e fun r => PX (.ok r) := Iff.rfl
theorem k_finXw {io : List Bool} {PX : Except Nat (D × Bool × List (List D)) → Prop} {ds : List D} : KFinX io PX (.rt (.new ds) e) ↔ outF io (.lst ds) true e fun r => PX (.ok r) := Iff.rfl
theorem k_finXn {io : List Bool} {PX : Except Nat (D × Bool × List (List D)) → Prop} : KFinX io PX (.nx e) ↔ outF io .non false e fun r => PX (.ok r) := Iff.rfl
theorem w_defX {m : Nat} {io : List Bool} {b : SFn} {ds : List D} {e0 : Env} {PX : Except Nat (D × Bool × List (List D)) → Prop} (he : argS io ds = some e0) : Ok (fDefX m io b ds) PX ↔ Ok (b (e0 ++ List.replicate m .no)) (KFinX io PX) := by
  have key : ∀ o : Out, Ok ((finF io o).bind fun r => some (Except.ok (ε := Nat) r)) PX ↔ KFin io (fun r => PX (.ok r)) o := fun o => by
    rw [ok_bind]
    have : Ok (finF io o) (fun r => Ok (some (Except.ok (ε := Nat) r)) PX) ↔ Ok (finF io o) fun r => PX (.ok r) := ⟨fun z => ok_mono z fun r y => ok_some.mp y, fun z => ok_mono z fun r y => ok_some.mpr y⟩
    rw [this]
    have w := w_def (m := 0) (io := []) (b := fun _ => some o) (ds := []) (e0 := []) (PF := fun r => PX (.ok r)) rfl
    cases o with
    | nx e => exact out_ok.symm
    | bk e => exact ok_none
    | ct e => exact ok_none
    | rt r e =>
      cases r with
      | ex n => exact ok_none
      | val d => exact out_ok.symm
      | new ds => exact out_ok.symm
      | tw ds => first | (exact out_ok.symm) | exact ok_none (P := PO) | exact ok_none (P := PT) | exact ok_none (P := PP) | exact ok_none (P := PI) | exact ok_none (P := PF) | exact ok_none (P := P) | exact ok_none
      | slot i =>
        unfold finF KFin
        dsimp only
        cases e[i]? with
        | none => exact ok_none
        | some v => cases v <;> first | exact ok_none | exact out_ok.symm
  unfold fDefX
  rw [he, Option.bind_some]
  refine ok_bind_iff fun o => ?_
  cases o with
  | nx e => exact key (.nx e)
  | bk e => exact key (.bk e)
  | ct e => exact key (.ct e)
  | rt r e =>
    cases r with
    | ex n => exact ok_some
    | val d => exact key (.rt (.val d) e)
    | new ds => exact key (.rt (.new ds) e)
    | tw ds => exact key (.rt (.tw ds) e)
    | slot i => exact key (.rt (.slot i) e)
theorem gEq_str {x y : Str} (h : (shp (.str x) && shp (.str y)) = true) (k : eqD (.str x) (.str y) = true) : gEq (.str x) (.str y) = some (.val (.bl true)) := by
  unfold gEq
  rw [if_pos h, k]
end
end Dv

/-! # wishes: count, index, isinstance of a refusal -/
namespace Dv
open PySem L2
section
variable {P : RV × Env → Prop} {PO : Out → Prop} {env e : Env} {f fa fb : EF} {fr : AF} {rs : List RV} {r : RV}
def KIsE (a : Addr) (b : Bool) (P : RV × Env → Prop) : RV × Env → Prop := fun z => match z.1 with
  | .val (.adr x) => x = a ∧ P (.val (.bl b), z.2)
  | _ => False
theorem k_isE {a : Addr} {b : Bool} : KIsE a b P (.val (.adr a), e) ↔ P (.val (.bl b), e) := ⟨fun h => h.2, fun h => ⟨rfl, h⟩⟩
theorem w_isE {i : Nat} {a : Addr} {b : Bool} : Ok (fIsE i a b env) P ↔ Ok (fVar i env) (KIsE a b P) := by
  unfold fIsE fVar
  cases env[i]? with
  | none => exact ⟨fun h => (ok_none.mp h).elim, fun h => (ok_none.mp h).elim⟩
  | some s =>
    cases s with
    | no => exact ⟨fun h => (ok_none.mp h).elim, fun h => (ok_none.mp h).elim⟩
    | nw w => exact ⟨fun h => (ok_none.mp h).elim, fun h => (ok_none.mp h).elim⟩
    | o1 ds => exact ⟨fun h => (ok_none.mp h).elim, fun h => (ok_some.mp h).elim⟩
    | io ds => exact ⟨fun h => (ok_none.mp h).elim, fun h => (ok_some.mp h).elim⟩
    | fz d =>
      dsimp only
      rw [ok_some]
      cases d with
      | adr x => dsimp only; rw [ok_guard, ok_some]; exact Iff.rfl
      | _ => exact ⟨fun h => (ok_none.mp h).elim, fun h => h.elim⟩
/-- x.m(y) -/
def KM1b (g : G2) (r : RV) (P : RV × Env → Prop) : RV × Env → Prop := fun b => D2 g (deref b.2 r) (deref b.2 b.1) b.2 P
def QM1 (g : G2) (fa : EF) (r : RV) (e : Env) (P : RV × Env → Prop) : Option D → Prop
  | some (.lst _) => Ok (fa e) (KM1b g r P)
  | _ => False
def KM1 (g : G2) (fa : EF) (P : RV × Env → Prop) : RV × Env → Prop := fun a => QM1 g fa a.1 a.2 P (deref a.2 a.1)
theorem k_m1b {g : G2} {r' : RV} : KM1b g r P (r', e) ↔ D2 g (deref e r) (deref e r') e P := Iff.rfl
theorem q_m1 {g : G2} {ds : List D} : QM1 g fa r e P (some (.lst ds)) ↔ Ok (fa e) (KM1b g r P) := Iff.rfl
theorem k_m1 {g : G2} : KM1 g fa P (r, e) ↔ QM1 g fa r e P (deref e r) := Iff.rfl
theorem w_m1 {g : G2} {i : Nat} : Ok (fM1 g i fa env) P ↔ Ok (fVar i env) (KM1 g fa P) := by
  refine ok_bind_iff fun ⟨r, e⟩ => ?_
  show Ok (Option.bind (deref e r) _) P ↔ QM1 g fa r e P (deref e r)
  cases hd : deref e r with
  | none => exact ⟨fun h => (ok_none.mp h).elim, fun h => h.elim⟩
  | some w =>
    rw [Option.bind_some]
    cases w with
    | lst ds =>
      show Ok (Option.bind (fa e) _) P ↔ _
      refine ok_bind_iff fun b => ?_
      show _ ↔ D2 g (deref b.2 r) (deref b.2 b.1) b.2 P
      constructor
      · intro z
        obtain ⟨q, e, p⟩ := z
        obtain ⟨x, e1, e⟩ := bnd e
        obtain ⟨y, e2, e⟩ := bnd e
        obtain ⟨w, e3, e⟩ := bnd e
        cases e
        rw [e1, e2]
        exact ⟨w, e3, p⟩
      · intro z'
        unfold D2 at z'
        split at z'
        · rename_i x y h1 h2
          obtain ⟨w, e3, p⟩ := z'
          exact ⟨(w, b.2), by rw [h1, h2]; simp [e3], p⟩
        · exact z'.elim
    | _ => exact ⟨fun h => (ok_none.mp h).elim, fun h => h.elim⟩
end
section
variable {P : RV × Env → Prop} {env e : Env} {f : EF}
def KBackN (e : Env) (P : RV × Env → Prop) : D × Bool × List (List D) → Prop := fun r => match resR r with
  | some z => P (z, e)
  | none => False
def KCallN (g : FF) (P : RV × Env → Prop) : RV × Env → Prop := fun a => match a.1 with
  | .new ds => Ok (g [.lst ds]) (KBackN a.2 P)
  | _ => False
theorem k_backNF {d : D} {outs : List (List D)} : KBackN e P (d, false, outs) ↔ P (.val d, e) := by
  unfold KBackN resR
  cases d <;> exact Iff.rfl
theorem k_backNT {ds : List D} {outs : List (List D)} : KBackN e P (.lst ds, true, outs) ↔ P (.new ds, e) := Iff.rfl
theorem k_callN {g : FF} {ds : List D} : KCallN g P (.new ds, e) ↔ Ok (g [.lst ds]) (KBackN e P) := Iff.rfl
theorem w_callN {g : FF} : Ok (fCallN g f env) P ↔ Ok (f env) (KCallN g P) := by
  refine ok_bind_iff fun ⟨r, e⟩ => ?_
  cases r with
  | new ds =>
    show Ok (Option.bind (g [.lst ds]) _) P ↔ Ok (g [.lst ds]) (KBackN e P)
    refine ok_bind_iff fun x => ?_
    show Ok (Option.bind (resR x) _) P ↔ _
    unfold KBackN
    cases resR x with
    | none => exact ⟨fun h => (ok_none.mp h).elim, fun h => h.elim⟩
    | some z => exact ok_some
  | _ => exact ⟨fun h => (ok_none.mp h).elim, fun h => h.elim⟩
end
section
variable {P : RV × Env → Prop} {env e : Env} {f : EF} {i : Nat} {r : RV} {a b : SV} {d d' : D} {ds es : List D}
def KLend (i : Nat) (ds : List D) (env : Env) (P : RV × Env → Prop) : RV × Env → Prop := fun a => (a.2.all ownNoL && noR a.1) = true ∧ P (a.1, (List.zipWith mergeS env a.2).set i (.o1 ds))
def QLend (i : Nat) (f : EF) (env : Env) (P : RV × Env → Prop) : Option SV → Prop
  | some (.o1 ds) => Ok (f (env.set i (.fz (.lst ds)))) (KLend i ds env P)
  | _ => False
theorem q_lend : QLend i f env P (some (.o1 ds)) ↔ Ok (f (env.set i (.fz (.lst ds)))) (KLend i ds env P) := Iff.rfl
theorem k_lend : KLend i ds env P (r, e) ↔ (e.all ownNoL && noR r) = true ∧ P (r, (List.zipWith mergeS env e).set i (.o1 ds)) := Iff.rfl
theorem w_lend : Ok (fLend i f env) P ↔ QLend i f env P env[i]? := by
  unfold fLend
  cases env[i]? with
  | none => exact ⟨fun h => (ok_none.mp h).elim, fun h => h.elim⟩
  | some s =>
    cases s with
    | o1 ds =>
      show Ok (Option.bind _ _) P ↔ Ok _ _
      refine ok_bind_iff fun x => ?_
      rw [ok_guard, ok_some]
      exact Iff.rfl
    | _ => exact ⟨fun h => (ok_none.mp h).elim, fun h => h.elim⟩
theorem m_fz : mergeS (.fz d) b = .fz d := by cases b <;> rfl
theorem m_no : mergeS .no b = .no := by cases b <;> rfl
theorem m_oo : mergeS (.o1 ds) (.o1 es) = .o1 es := rfl
theorem m_ii : mergeS (.io ds) (.io es) = .io es := rfl
theorem m_of : mergeS (.o1 ds) (.fz d) = .no := rfl
theorem o_fz : ownNoL (.fz d) = true := rfl
theorem o_no : ownNoL .no = true := rfl
theorem o_o1 : ownNoL (.o1 ds) = noLs ds := rfl
theorem o_io : ownNoL (.io ds) = noLs ds := rfl
theorem n_val : noR (.val d) = noL d := rfl
theorem n_new : noR (.new ds) = noLs ds := rfl
end
section
variable {P : RV × Env → Prop} {PO : Out → Prop} {env e : Env} {f : EF} {i : Nat} {d : D} {ds : List D}
def dropL : List D → Option (List D) := fun ds => some ds.dropLast
theorem dropL_eq : dropL ds = some ds.dropLast := rfl
def KPop2 (d : D) (P : RV × Env → Prop) : Env → Prop := fun e => P (.val d, e)
def KPop1 (i : Nat) (env : Env) (P : RV × Env → Prop) : D → Prop := fun d => Ok (upO i dropL env) (KPop2 d P)
def QPop (i : Nat) (env : Env) (P : RV × Env → Prop) : Option D → Prop
  | some (.lst ds) => Ok ds.getLast? (KPop1 i env P)
  | _ => False
theorem k_pop2 : KPop2 d P e ↔ P (.val d, e) := Iff.rfl
theorem k_pop1 : KPop1 i env P d ↔ Ok (upO i dropL env) (KPop2 d P) := Iff.rfl
theorem q_pop : QPop i env P (some (.lst ds)) ↔ Ok ds.getLast? (KPop1 i env P) := Iff.rfl
theorem w_pop : Ok (fPop i env) P ↔ QPop i env P (deref env (.slot i)) := by
  unfold fPop
  cases deref env (.slot i) with
  | none => exact ⟨fun h => (ok_none.mp h).elim, fun h => h.elim⟩
  | some w =>
    cases w with
    | lst ds =>
      show Ok (Option.bind (ds[ds.length - 1]?) _) P ↔ Ok ds.getLast? _
      rw [← List.getLast?_eq_getElem?]
      refine ok_bind_iff fun d => ?_
      exact ok_bind_iff fun e => ok_some
    | _ => exact ⟨fun h => (ok_none.mp h).elim, fun h => h.elim⟩
def KOwnV (i : Nat) (PO : Out → Prop) : RV × Env → Prop := fun a => match a.1 with
  | .new ds => Ok (putS i (.o1 ds) a.2) (KNx PO)
  | .val d => Ok (gfName i d a.2) (KNx PO)
  | _ => False
theorem k_ownVn : KOwnV i PO (.new ds, e) ↔ Ok (putS i (.o1 ds) e) (KNx PO) := Iff.rfl
theorem k_ownVv : KOwnV i PO (.val d, e) ↔ Ok (gfName i d e) (KNx PO) := Iff.rfl
theorem w_ownV : Ok (fOwnV i f env) PO ↔ Ok (f env) (KOwnV i PO) := by
  refine ok_bind_iff fun ⟨r, e⟩ => ?_
  cases r with
  | new ds => exact ok_bind_iff fun e => ok_some
  | val d => exact ok_bind_iff fun e => ok_some
  | _ => exact ⟨fun h => (ok_none.mp h).elim, fun h => h.elim⟩
end
theorem ixN30 : ixN 3 0 = some 0 := by decide
theorem ixN31 : ixN 3 1 = some 1 := by decide
theorem ixN32 : ixN 3 2 = some 2 := by decide
theorem gSortSet_R (xs : List R) : gSortSet [.lst (xs.map encR)] = if xs.length ≤ 9900 then some (.new ((srtP xs).map encR)) else none := gSortSet_L xs
end Dv

/-! plain mathematics: power series over the rationals as a ring, trimmed lists of rationals, sizes of rationals -/
namespace Dv
structure PS where
  co : Nat → Rat
namespace PS
theorem ext {f g : PS} (h : ∀ k, f.co k = g.co k) : f = g := by
  cases f
  cases g
  congr
  funext k
  exact h k
def tl (f : PS) : PS := ⟨fun k => f.co (k + 1)⟩
def C (r : Rat) : PS := ⟨fun k => if k = 0 then r else 0⟩
def mulC : Nat → PS → PS → Rat
  | 0, f, g => f.co 0 * g.co 0
  | k + 1, f, g => f.co 0 * g.co (k + 1) + mulC k f.tl g
instance : Add PS := ⟨fun f g => ⟨fun k => f.co k + g.co k⟩⟩
instance : Neg PS := ⟨fun f => ⟨fun k => -f.co k⟩⟩
instance : _root_.Sub PS := ⟨fun f g => ⟨fun k => f.co k - g.co k⟩⟩
instance : Mul PS := ⟨fun f g => ⟨fun k => mulC k f g⟩⟩
instance : NatCast PS := ⟨fun n => C n⟩
instance : IntCast PS := ⟨fun n => C n⟩
instance (n : Nat) : OfNat PS n := ⟨C n⟩
instance : SMul Nat PS := ⟨fun n f => C n * f⟩
instance : SMul Int PS := ⟨fun n f => C n * f⟩
def npow (f : PS) : Nat → PS
  | 0 => C 1
  | n + 1 => npow f n * f
instance : HPow PS Nat PS := ⟨npow⟩
theorem add_co (f g : PS) (k : Nat) : (f + g).co k = f.co k + g.co k := rfl
theorem neg_co (f : PS) (k : Nat) : (-f).co k = -f.co k := rfl
theorem sub_co (f g : PS) (k : Nat) : (f - g).co k = f.co k - g.co k := rfl
theorem mul_co (f g : PS) (k : Nat) : (f * g).co k = mulC k f g := rfl
theorem mulC_0 (f g : PS) : mulC 0 f g = f.co 0 * g.co 0 := rfl
theorem mulC_s (f g : PS) (k : Nat) : mulC (k + 1) f g = f.co 0 * g.co (k + 1) + mulC k f.tl g := rfl
theorem zero_co (k : Nat) : (0 : PS).co k = 0 := by
  show (if k = 0 then ((0 : Nat) : Rat) else 0) = 0
  split <;> rfl
theorem C_co0 (r : Rat) : (C r).co 0 = r := rfl
theorem C_coS (r : Rat) (k : Nat) : (C r).co (k + 1) = 0 := rfl
theorem one_eq : (1 : PS) = C 1 := rfl
theorem zero_eq : (0 : PS) = C 0 := rfl
theorem mulC_z (g : PS) (f : PS) (h : ∀ k, f.co k = 0) : ∀ k, mulC k f g = 0 := by
  intro k
  induction k generalizing f with
  | zero => rw [mulC_0, h]; grind
  | succ k ih => rw [mulC_s, h, ih f.tl (fun k => h (k + 1))]; grind
theorem mulC_C (r : Rat) (g : PS) (k : Nat) : mulC k (C r) g = r * g.co k := by
  cases k with
  | zero => rfl
  | succ k =>
    rw [mulC_s, mulC_z g _ (fun k => rfl)]
    show r * _ + 0 = _
    grind
theorem mulC_addR (k : Nat) (f g h : PS) : mulC k f (g + h) = mulC k f g + mulC k f h := by
  induction k generalizing f with
  | zero => rw [mulC_0, mulC_0, mulC_0, add_co]; grind
  | succ k ih => rw [mulC_s, mulC_s, mulC_s, ih, add_co]; grind
theorem tl_add (f g : PS) : (f + g).tl = f.tl + g.tl := rfl
theorem mulC_addL (k : Nat) (f g h : PS) : mulC k (f + g) h = mulC k f h + mulC k g h := by
  induction k generalizing f g with
  | zero => rw [mulC_0, mulC_0, mulC_0, add_co]; grind
  | succ k ih => rw [mulC_s, mulC_s, mulC_s, tl_add, ih, add_co]; grind
theorem mulC_r (k : Nat) (f g : PS) : mulC (k + 1) f g = f.co (k + 1) * g.co 0 + mulC k f g.tl := by
  induction k generalizing f with
  | zero =>
    rw [mulC_s, mulC_0, mulC_0]
    show f.co 0 * g.co 1 + f.co 1 * g.co 0 = f.co 1 * g.co 0 + f.co 0 * g.co 1
    grind
  | succ k ih =>
    rw [mulC_s, ih, mulC_s]
    show f.co 0 * g.co (k + 2) + (f.co (k + 2) * g.co 0 + _) = f.co (k + 2) * g.co 0 + (f.co 0 * g.co (k + 2) + _)
    grind
theorem mulC_comm (k : Nat) (f g : PS) : mulC k f g = mulC k g f := by
  induction k generalizing f g with
  | zero => rw [mulC_0, mulC_0]; grind
  | succ k ih => rw [mulC_s, mulC_r, ih]; grind
theorem tl_mul (f g : PS) : (f * g).tl = C (f.co 0) * g.tl + f.tl * g := by
  apply ext
  intro k
  show mulC (k + 1) f g = mulC k (C (f.co 0)) g.tl + mulC k f.tl g
  rw [mulC_s, mulC_C]
  rfl
theorem mulC_assoc (k : Nat) (f g h : PS) : mulC k (f * g) h = mulC k f (g * h) := by
  induction k generalizing f g h with
  | zero => rw [mulC_0, mulC_0, mul_co, mul_co, mulC_0, mulC_0]; grind
  | succ k ih =>
    rw [mulC_s, mulC_s, tl_mul, mulC_addL, ih, ih, mulC_C, mul_co, mul_co, mulC_0]
    show f.co 0 * g.co 0 * h.co (k + 1) + (f.co 0 * mulC k g.tl h + mulC k f.tl (g * h)) = f.co 0 * mulC (k + 1) g h + mulC k f.tl (g * h)
    rw [mulC_s]
    grind
theorem C_add (a b : Rat) : C (a + b) = C a + C b := by
  apply ext
  intro k
  rw [add_co]
  cases k with
  | zero => rfl
  | succ k => rw [C_coS, C_coS, C_coS]; grind
theorem C_neg (a : Rat) : C (-a) = -C a := by
  apply ext
  intro k
  rw [neg_co]
  cases k with
  | zero => rfl
  | succ k => rw [C_coS, C_coS]; grind
theorem C_mul (a b : Rat) : C (a * b) = C a * C b := by
  apply ext
  intro k
  rw [mul_co, mulC_C]
  cases k with
  | zero => rfl
  | succ k => rw [C_coS, C_coS]; grind
theorem mul_comm' (f g : PS) : f * g = g * f := ext fun k => mulC_comm k f g
theorem mul_assoc' (f g h : PS) : f * g * h = f * (g * h) := ext fun k => mulC_assoc k f g h
theorem C_co_mul (r : Rat) (f : PS) (k : Nat) : (C r * f).co k = r * f.co k := mulC_C r f k
theorem one_mul' (f : PS) : 1 * f = f := ext fun k => by rw [one_eq, C_co_mul]; grind
theorem zero_mul' (f : PS) : 0 * f = 0 := ext fun k => by rw [mul_co, mulC_z f 0 (fun k => zero_co k), zero_co]
theorem ldis (f g h : PS) : f * (g + h) = f * g + f * h := ext fun k => mulC_addR k f g h
instance : Lean.Grind.CommRing PS where
  add_zero f := ext fun k => by rw [add_co, zero_co]; grind
  add_comm f g := ext fun k => by rw [add_co, add_co]; grind
  add_assoc f g h := ext fun k => by rw [add_co, add_co, add_co, add_co]; grind
  mul_assoc := mul_assoc'
  mul_one f := by rw [mul_comm', one_mul']
  one_mul := one_mul'
  left_distrib := ldis
  right_distrib f g h := by rw [mul_comm', ldis, mul_comm' h, mul_comm' h]
  zero_mul := zero_mul'
  mul_zero f := by rw [mul_comm', zero_mul']
  pow_zero f := rfl
  pow_succ f n := rfl
  ofNat_succ a := by
    show C ((a + 1 : Nat) : Rat) = C (a : Nat) + C 1
    rw [← C_add]
    rw [Rat.natCast_add]; rfl
  ofNat_eq_natCast n := rfl
  nsmul_eq_natCast_mul n f := rfl
  neg_add_cancel f := ext fun k => by rw [add_co, neg_co, zero_co]; grind
  sub_eq_add_neg f g := ext fun k => by rw [sub_co, add_co, neg_co]; grind
  neg_zsmul i f := by
    show C ((-i : Int) : Rat) * f = -(C (i : Rat) * f)
    apply ext
    intro k
    rw [neg_co, C_co_mul, C_co_mul, Rat.intCast_neg]
    grind
  zsmul_natCast_eq_nsmul n f := rfl
  intCast_ofNat n := rfl
  intCast_neg i := by
    show C ((-i : Int) : Rat) = -C (i : Rat)
    rw [Rat.intCast_neg, C_neg]
  mul_comm := mul_comm'
def X : PS := ⟨fun k => if k = 1 then 1 else 0⟩
theorem X_tl : X.tl = 1 := ext fun k => by
  show (if k + 1 = 1 then (1 : Rat) else 0) = (if k = 0 then ((1 : Nat) : Rat) else 0)
  by_cases h : k = 0
  · rw [if_pos h, if_pos (by omega)]; rfl
  · rw [if_neg h, if_neg (by omega)]
theorem X_co0 (f : PS) : (X * f).co 0 = 0 := by
  rw [mul_co, mulC_0]
  show (0 : Rat) * _ = 0
  grind
theorem X_coS (f : PS) (k : Nat) : (X * f).co (k + 1) = f.co k := by
  rw [mul_co, mulC_s, X_tl, ← mul_co, one_mul']
  show (0 : Rat) * _ + _ = _
  grind
theorem X_pow_co (n : Nat) (f : PS) (k : Nat) : (X ^ n * f).co k = if n ≤ k then f.co (k - n) else 0 := by
  induction n generalizing f k with
  | zero =>
    rw [show X ^ 0 = (1 : PS) from rfl, one_mul', if_pos (Nat.zero_le k)]
    rfl
  | succ n ih =>
    rw [show X ^ (n + 1) = X ^ n * X from rfl, mul_assoc', ih]
    by_cases h : n ≤ k
    · rw [if_pos h]
      by_cases h2 : n + 1 ≤ k
      · rw [if_pos h2, show k - n = (k - (n + 1)) + 1 by omega, X_coS]
      · rw [if_neg h2, show k - n = 0 by omega, X_co0]
    · rw [if_neg h, if_neg (by omega)]
theorem split0 (f : PS) : f = C (f.co 0) + X * f.tl := ext fun k => by
  rw [add_co]
  cases k with
  | zero => rw [X_co0, C_co0]; grind
  | succ k =>
    rw [X_coS, C_coS]
    show f.co (k + 1) = 0 + f.co (k + 1)
    grind
/-- the slope -/
def dd (f : PS) : PS := ⟨fun k => ((k + 1 : Nat) : Rat) * f.co (k + 1)⟩
theorem dd_tl (f : PS) : f.dd = f.tl + X * f.tl.dd := ext fun k => by
  rw [add_co]
  cases k with
  | zero =>
    rw [X_co0]
    show ((1 : Nat) : Rat) * f.co 1 = f.co 1 + 0
    rw [show ((1 : Nat) : Rat) = 1 from rfl]
    grind
  | succ k =>
    rw [X_coS]
    show ((k + 1 + 1 : Nat) : Rat) * f.co (k + 2) = f.co (k + 2) + ((k + 1 : Nat) : Rat) * f.co (k + 2)
    rw [show ((k + 1 + 1 : Nat) : Rat) = ((k + 1 : Nat) : Rat) + 1 from Rat.natCast_add _ _]
    grind
theorem dd_mul_co (k : Nat) (f g : PS) : ((f * g).dd).co k = (f.dd * g + f * g.dd).co k := by
  induction k generalizing f g with
  | zero =>
    show ((1 : Nat) : Rat) * mulC 1 f g = mulC 0 f.dd g + mulC 0 f g.dd
    rw [mulC_s, mulC_0, mulC_0, mulC_0]
    show ((1 : Nat) : Rat) * (f.co 0 * g.co 1 + f.co 1 * g.co 0) = ((1 : Nat) : Rat) * f.co 1 * g.co 0 + f.co 0 * (((1 : Nat) : Rat) * g.co 1)
    grind
  | succ k ih =>
    have h := ih f.tl g
    have e1 : f.dd * g + f * g.dd = f.tl * g + C (f.co 0) * g.dd + X * (f.tl.dd * g + f.tl * g.dd) := by
      rw [dd_tl f]
      conv => lhs; rhs; rw [split0 f]
      grind
    rw [e1, add_co, X_coS, ← h, add_co, C_co_mul]
    show ((k + 1 + 1 : Nat) : Rat) * mulC (k + 2) f g = mulC (k + 1) f.tl g + f.co 0 * (((k + 1 + 1 : Nat) : Rat) * g.co (k + 2)) + ((k + 1 : Nat) : Rat) * mulC (k + 1) f.tl g
    rw [mulC_s, show ((k + 1 + 1 : Nat) : Rat) = ((k + 1 : Nat) : Rat) + 1 from Rat.natCast_add _ _]
    grind
theorem dd_mul (f g : PS) : (f * g).dd = f.dd * g + f * g.dd := ext fun k => dd_mul_co k f g
end PS
open PS
/-! lists of rationals -/
def ps (xs : List Rat) : PS := ⟨fun k => xs.getD k 0⟩
theorem psl_co (xs : List Rat) (k : Nat) : (ps xs).co k = xs.getD k 0 := rfl
theorem psl_nil : ps [] = 0 := PS.ext fun k => by rw [zero_co, psl_co]; rfl
theorem psl_cons (x : Rat) (xs : List Rat) : ps (x :: xs) = C x + X * ps xs := by
  rw [PS.split0 (ps (x :: xs))]
  rfl
theorem psl_hi (xs : List Rat) (k : Nat) (h : xs.length ≤ k) : (ps xs).co k = 0 := by
  rw [psl_co, List.getD_eq_getElem?_getD, List.getElem?_eq_none h]
  rfl
def cutQ (xs : List Rat) : List Rat := (xs.reverse.dropWhile fun p => p = 0).reverse
theorem cutQ_snoc (xs : List Rat) (p : Rat) : cutQ (xs ++ [p]) = if p = 0 then cutQ xs else xs ++ [p] := by
  unfold cutQ
  rw [List.reverse_append, List.reverse_singleton, List.singleton_append]
  by_cases h : p = 0
  · rw [List.dropWhile_cons_of_pos (by simpa using h), if_pos h]
  · rw [List.dropWhile_cons_of_neg (by simpa using h), if_neg h, List.reverse_cons, List.reverse_reverse]
/-- no nought at the end -/
def Trim (xs : List Rat) : Prop := ∀ p, xs.getLast? = some p → p ≠ 0
theorem cutQ_trim (xs : List Rat) : Trim (cutQ xs) := by
  intro p h z
  unfold cutQ at h
  rw [List.getLast?_reverse] at h
  have := List.head?_dropWhile_not (p := fun p : Rat => decide (p = 0)) xs.reverse
  rw [h] at this
  simp [z] at this
theorem snoc_of {α : Type} {xs : List α} (c : xs ≠ []) : ∃ zs p, xs = zs ++ [p] := ⟨xs.dropLast, xs.getLast c, (List.dropLast_concat_getLast c).symm⟩
theorem snoc_ind {α : Type} {P : List α → Prop} (h0 : P []) (hs : ∀ xs x, P xs → P (xs ++ [x])) (xs : List α) : P xs := by
  have : ∀ n, ∀ xs : List α, xs.length = n → P xs := by
    intro n
    induction n with
    | zero =>
      intro xs h
      rw [List.length_eq_zero_iff.mp h]
      exact h0
    | succ n ih =>
      intro xs h
      obtain ⟨zs, p, rfl⟩ := snoc_of (xs := xs) (by intro z; subst z; cases h)
      refine hs zs p (ih zs ?_)
      rw [List.length_append] at h
      exact Nat.succ.inj h
  exact this _ xs rfl
theorem psl_snoc_co (xs : List Rat) (p : Rat) (k : Nat) : (ps (xs ++ [p])).co k = if k = xs.length then p else (ps xs).co k := by
  rw [psl_co, psl_co, List.getD_eq_getElem?_getD, List.getD_eq_getElem?_getD]
  by_cases h : k < xs.length
  · rw [List.getElem?_append_left h, if_neg (by omega)]
  · rw [List.getElem?_append_right (by omega)]
    by_cases h2 : k = xs.length
    · rw [if_pos h2, h2, Nat.sub_self]
      rfl
    · rw [if_neg h2, List.getElem?_eq_none (by show 1 ≤ k - xs.length; omega), List.getElem?_eq_none (by omega)]
theorem psl_cut (xs : List Rat) : ps (cutQ xs) = ps xs := by
  induction xs using snoc_ind with
  | h0 => rfl
  | hs xs p ih =>
    rw [cutQ_snoc]
    by_cases h : p = 0
    · rw [if_pos h, ih]
      apply PS.ext
      intro k
      rw [psl_snoc_co]
      by_cases h2 : k = xs.length
      · rw [if_pos h2, h, h2, psl_hi _ _ (Nat.le_refl _)]
      · rw [if_neg h2]
    · rw [if_neg h]
theorem trim_len {xs ys : List Rat} (hx : Trim xs) (h : ps xs = ps ys) : xs.length ≤ ys.length := by
  apply Classical.byContradiction
  intro c
  have hn : xs ≠ [] := by intro z; subst z; exact c (Nat.zero_le _)
  obtain ⟨zs, p, rfl⟩ := snoc_of hn
  have h1 := hx p (by rw [List.getLast?_concat])
  have h2 := congrArg (fun f => f.co zs.length) h
  have h3 : (ps ys).co zs.length = 0 := psl_hi _ _ (by rw [List.length_append] at c; simp at c; omega)
  rw [h3, psl_snoc_co, if_pos rfl] at h2
  exact h1 h2
theorem ext_len {xs ys : List Rat} (hl : xs.length = ys.length) (h : ps xs = ps ys) : xs = ys := by
  apply List.ext_getElem?
  intro k
  have h1 := congrArg (fun f => f.co k) h
  simp only [psl_co, List.getD_eq_getElem?_getD] at h1
  by_cases c : k < xs.length
  · have c' : k < ys.length := by omega
    rw [List.getElem?_eq_getElem c, List.getElem?_eq_getElem c'] at *
    simpa using h1
  · rw [List.getElem?_eq_none (by omega), List.getElem?_eq_none (by omega)]
/-- lists with no nought at the end are told by their series -/
theorem trim_ext {xs ys : List Rat} (hx : Trim xs) (hy : Trim ys) (h : ps xs = ps ys) : xs = ys :=
  ext_len (Nat.le_antisymm (trim_len hx h) (trim_len hy h.symm)) h
theorem cutQ_of {xs : List Rat} (h : Trim xs) : cutQ xs = xs := trim_ext (cutQ_trim xs) h (psl_cut xs)
theorem cutQ_len (xs : List Rat) : (cutQ xs).length ≤ xs.length := trim_len (cutQ_trim xs) (psl_cut xs)
theorem cutQ_mem {xs : List Rat} {p : Rat} (h : p ∈ cutQ xs) : p ∈ xs := by
  unfold cutQ at h
  have := (List.dropWhile_suffix _).subset (List.mem_reverse.mp h)
  exact List.mem_reverse.mp this
/-- the line of the first figures of a series -/
def lineN (n : Nat) (f : PS) : List Rat := cutQ ((List.range n).map f.co)
theorem psl_range (n : Nat) (f : PS) (h : ∀ k, n ≤ k → f.co k = 0) : ps ((List.range n).map f.co) = f := by
  apply PS.ext
  intro k
  rw [psl_co, List.getD_eq_getElem?_getD, List.getElem?_map]
  by_cases c : k < n
  · rw [List.getElem?_range c]
    rfl
  · rw [List.getElem?_eq_none (by rw [List.length_range]; omega), h k (by omega)]
    rfl
theorem psl_lineN (n : Nat) (f : PS) (h : ∀ k, n ≤ k → f.co k = 0) : ps (lineN n f) = f := by
  unfold lineN
  rw [psl_cut, psl_range n f h]
theorem lineN_trim (n : Nat) (f : PS) : Trim (lineN n f) := cutQ_trim _
theorem cut_lineN {xs : List Rat} {n : Nat} {f : PS} (hl : xs.length = n) (h : ps xs = f) : cutQ xs = lineN n f := by
  refine trim_ext (cutQ_trim _) (lineN_trim n f) ?_
  rw [psl_cut, h, psl_lineN]
  intro k hk
  rw [← h]
  exact psl_hi _ _ (by omega)
theorem mul_hi {f g : PS} {a b : Nat} (hf : ∀ k, a ≤ k → f.co k = 0) (hg : ∀ k, b ≤ k → g.co k = 0) : ∀ k, a + b ≤ k + 1 → (f * g).co k = 0 := by
  induction a generalizing f with
  | zero =>
    intro k _
    rw [mul_co]
    exact mulC_z g f (fun k => hf k (Nat.zero_le k)) k
  | succ a ih =>
    intro k hk
    rw [mul_co]
    cases k with
    | zero =>
      rw [mulC_0]
      have hb : b = 0 := by omega
      rw [hg 0 (by omega)]
      grind
    | succ k =>
      rw [mulC_s, hg (k + 1) (by omega), ← mul_co, ih (f := f.tl) (fun k hk => hf (k + 1) (by omega)) k (by omega)]
      grind
/-! sizes: a rational times M is a whole number of at most B -/
def Sz (M B : Nat) (q : Rat) : Prop := ∃ N : Int, q * (M : Nat) = N ∧ N.natAbs ≤ B
theorem Sz.mono {M B B' : Nat} {q : Rat} (h : Sz M B q) (k : B ≤ B') : Sz M B' q := by
  obtain ⟨N, h1, h2⟩ := h
  exact ⟨N, h1, Nat.le_trans h2 k⟩
theorem Sz.zero {M B : Nat} : Sz M B 0 := ⟨0, by grind, Nat.zero_le _⟩
theorem Sz.add {M B B' : Nat} {p q : Rat} (h : Sz M B p) (k : Sz M B' q) : Sz M (B + B') (p + q) := by
  obtain ⟨N, h1, h2⟩ := h
  obtain ⟨N', k1, k2⟩ := k
  refine ⟨N + N', ?_, by omega⟩
  rw [Rat.intCast_add]
  grind
theorem Sz.mul {M B M' B' : Nat} {p q : Rat} (h : Sz M B p) (k : Sz M' B' q) : Sz (M * M') (B * B') (p * q) := by
  obtain ⟨N, h1, h2⟩ := h
  obtain ⟨N', k1, k2⟩ := k
  refine ⟨N * N', ?_, ?_⟩
  · rw [Rat.intCast_mul, Rat.natCast_mul]
    grind
  · rw [Int.natAbs_mul]
    exact Nat.mul_le_mul h2 k2
theorem Sz.neg {M B : Nat} {p : Rat} (h : Sz M B p) : Sz M B (-p) := by
  obtain ⟨N, h1, h2⟩ := h
  refine ⟨-N, ?_, by omega⟩
  rw [Rat.intCast_neg]
  grind
theorem Sz.ext {M B : Nat} {p : Rat} (h : Sz M B p) (k : Nat) : Sz (M * k) (B * k) p := by
  obtain ⟨N, h1, h2⟩ := h
  refine ⟨N * k, ?_, ?_⟩
  · rw [Rat.intCast_mul, Rat.natCast_mul, Rat.intCast_natCast]
    grind
  · rw [Int.natAbs_mul]
    exact Nat.mul_le_mul h2 (Nat.le_of_eq (Int.natAbs_natCast k))
theorem num_den (q : Rat) : q * (q.den : Nat) = q.num := by
  have h := Rat.mkRat_self q
  rw [Rat.mkRat_eq_div] at h
  have hd : ((q.den : Nat) : Rat) ≠ 0 := by
    intro z
    exact q.den_nz (Rat.natCast_inj.mp z)
  conv => lhs; lhs; rw [← h]
  grind
theorem den_ne (q : Rat) : ((q.den : Nat) : Rat) ≠ 0 := fun z => q.den_nz (Rat.natCast_inj.mp z)
theorem Sz.self (q : Rat) : Sz q.den q.num.natAbs q := ⟨q.num, num_den q, Nat.le_refl _⟩
theorem Sz.le {M B : Nat} {q : Rat} (hM : 0 < M) (h : Sz M B q) : q.den ≤ M ∧ q.num.natAbs ≤ B := by
  obtain ⟨N, h1, h2⟩ := h
  have e : q.num * (M : Int) = N * (q.den : Int) := by
    have := num_den q
    apply Rat.intCast_inj.mp
    rw [Rat.intCast_mul, Rat.intCast_mul, Rat.intCast_natCast, Rat.intCast_natCast]
    grind
  have e2 : q.num.natAbs * M = N.natAbs * q.den := by
    have := congrArg Int.natAbs e
    rw [Int.natAbs_mul, Int.natAbs_mul, Int.natAbs_natCast, Int.natAbs_natCast] at this
    exact this
  have d : q.den ∣ M := (Nat.Coprime.symm q.reduced).dvd_of_dvd_mul_left ⟨N.natAbs, by rw [e2, Nat.mul_comm]⟩
  refine ⟨Nat.le_of_dvd hM d, ?_⟩
  obtain ⟨c, rfl⟩ := d
  have hd := Nat.pos_of_ne_zero q.den_nz
  have e3 : q.num.natAbs * c = N.natAbs := by
    apply Nat.eq_of_mul_eq_mul_right hd
    rw [← e2, Nat.mul_assoc, Nat.mul_comm c]
  have hc : 0 < c := Nat.pos_of_ne_zero fun z => by subst z; simp at hM
  calc q.num.natAbs ≤ q.num.natAbs * c := Nat.le_mul_of_pos_right _ hc
    _ ≤ B := by rw [e3]; exact h2
/-- a list with a common bottom -/
def SzL (M B : Nat) (xs : List Rat) : Prop := ∀ q, q ∈ xs → Sz M B q
theorem SzL.getD {M B : Nat} {xs : List Rat} (h : SzL M B xs) (k : Nat) : Sz M B (xs.getD k 0) := by
  rw [List.getD_eq_getElem?_getD]
  cases e : xs[k]? with
  | none => exact Sz.zero
  | some p => exact h p (List.mem_of_getElem? e)
theorem SzL.cut {M B : Nat} {xs : List Rat} (h : SzL M B xs) : SzL M B (cutQ xs) := fun p hp => h p (cutQ_mem hp)
theorem SzL.mono {M B B' : Nat} {xs : List Rat} (h : SzL M B xs) (k : B ≤ B') : SzL M B' xs := fun p hp => (h p hp).mono k
theorem SzL.ext {M B : Nat} {xs : List Rat} (h : SzL M B xs) (k : Nat) : SzL (M * k) (B * k) xs := fun p hp => (h p hp).ext k
/-- the common bottom of a drawn list -/
theorem SzL.drawn (n : Nat) : ∀ xs : List Rat, (∀ q, q ∈ xs → q.num.natAbs < 2 ^ n ∧ q.den < 2 ^ n) → ∃ M, 0 < M ∧ M ≤ 2 ^ (n * xs.length) ∧ SzL M (2 ^ n * M) xs
  | [], _ => ⟨1, by decide, Nat.one_le_two_pow, fun q h => nomatch h⟩
  | x :: xs, h => by
    obtain ⟨M, h1, h2, h3⟩ := SzL.drawn n xs fun q hq => h q (List.mem_cons_of_mem _ hq)
    obtain ⟨hx1, hx2⟩ := h x List.mem_cons_self
    have hd := Nat.pos_of_ne_zero x.den_nz
    refine ⟨M * x.den, Nat.mul_pos h1 hd, ?_, fun q hq => ?_⟩
    · rw [List.length_cons, Nat.mul_succ, Nat.pow_add]
      exact Nat.mul_le_mul h2 (Nat.le_of_lt hx2)
    · rcases List.mem_cons.mp hq with rfl | hq
      · have := (Sz.self q).ext M
        rw [Nat.mul_comm M q.den]
        refine this.mono ?_
        calc q.num.natAbs * M ≤ 2 ^ n * M := Nat.mul_le_mul_right _ (Nat.le_of_lt hx1)
          _ ≤ 2 ^ n * (q.den * M) := Nat.mul_le_mul_left _ (Nat.le_mul_of_pos_left M hd)
      · have := (h3 q hq).ext x.den
        rw [Nat.mul_assoc] at this
        exact this
end Dv

/-! # dicts whose keys are tuples of ints, owned by one name -/
namespace Dv
open PySem L2
def kVal (kvs : List (List Int × D)) (k : List Int) : Option D := (kvs.find? fun kv => decide (kv.1 = k)).map (·.2)
def kPut (kvs : List (List Int × D)) (k : List Int) (d : D) : List (List Int × D) := if (kvs.any fun kv => decide (kv.1 = k)) = true then kvs.map (fun kv => if kv.1 = k then (kv.1, d) else kv) else kvs ++ [(k, d)]
abbrev keyI (k : List Int) : List L2.Key := k.map Sum.inl
theorem keyI_inj : ∀ {a b : List Int}, keyI a = keyI b → a = b
  | [], [], _ => rfl
  | [], _ :: _, h => by cases h
  | _ :: _, [], h => by cases h
  | x :: a, y :: b, h => by
    have h' : Sum.inl x :: keyI a = (Sum.inl y :: keyI b : List L2.Key) := h
    injection h' with h1 h2
    injection h1 with h1
    rw [h1, keyI_inj h2]
theorem keyI_kV : ∀ k : List Int, (keyI k).map kV = k.map V.int
  | [] => rfl
  | x :: k => by
    show kV (Sum.inl x) :: (keyI k).map kV = _
    rw [keyI_kV k]
    rfl
section
variable {K : PySem.W.Frag} {G : Hp}
theorem DqK.val : ∀ {ks : List (List L2.Key × V)} {kvs : List (List Int × D)} (k : List Int), DqK K G ks kvs → (valV ks (keyI k) = none ∧ kVal kvs k = none) ∨ ∃ v d, valV ks (keyI k) = some v ∧ kVal kvs k = some d ∧ Dq K G v d
  | [], [], k, _ => .inl ⟨rfl, rfl⟩
  | [], _ :: _, _, h => h.elim
  | _ :: _, [], _, h => h.elim
  | p :: ks, q :: kvs, k, h => by
    obtain ⟨h1, h2, h3⟩ := h
    by_cases c : q.1 = k
    · refine .inr ⟨p.2, q.2, ?_, ?_, h2⟩
      · exact valV_pos (by rw [h1, c])
      · unfold kVal
        rw [List.find?_cons_of_pos (by simpa using c)]
        rfl
    · have e1 : valV (p :: ks) (keyI k) = valV ks (keyI k) := valV_neg (fun z => c (keyI_inj (by rw [← z, h1])))
      have e2 : kVal (q :: kvs) k = kVal kvs k := by
        unfold kVal
        rw [List.find?_cons_of_neg (by simpa using c)]
      rw [e1, e2]
      exact DqK.val k h3
theorem DqK.any : ∀ {ks : List (List L2.Key × V)} {kvs : List (List Int × D)} (k : List Int), DqK K G ks kvs → (ks.any fun kv => decide (kv.1 = keyI k)) = kvs.any fun kv => decide (kv.1 = k)
  | [], [], k, _ => rfl
  | [], _ :: _, _, h => h.elim
  | _ :: _, [], _, h => h.elim
  | p :: ks, q :: kvs, k, h => by
    obtain ⟨h1, h2, h3⟩ := h
    rw [List.any_cons, List.any_cons, DqK.any k h3, h1]
    congr 1
    by_cases c : q.1 = k
    · rw [decide_eq_true c, decide_eq_true (by rw [c])]
    · rw [decide_eq_false c, decide_eq_false (fun z => c (keyI_inj z))]
theorem DqK.maps {v : V} {d : D} (hv : Dq K G v d) : ∀ {ks : List (List L2.Key × V)} {kvs : List (List Int × D)} (k : List Int), DqK K G ks kvs → DqK K G (ks.map fun kv => if kv.1 = keyI k then (kv.1, v) else kv) (kvs.map fun kv => if kv.1 = k then (kv.1, d) else kv)
  | [], [], k, _ => trivial
  | [], _ :: _, _, h => h.elim
  | _ :: _, [], _, h => h.elim
  | p :: ks, q :: kvs, k, h => by
    obtain ⟨h1, h2, h3⟩ := h
    rw [List.map_cons, List.map_cons]
    have t := DqK.maps hv k h3
    by_cases c : q.1 = k
    · rw [if_pos c, if_pos (by rw [h1, c])]
      exact ⟨h1, hv, t⟩
    · rw [if_neg c, if_neg (fun z => c (keyI_inj (by rw [← z, h1])))]
      exact ⟨h1, h2, t⟩
theorem DqK.snoc {v : V} {d : D} (hv : Dq K G v d) (k : List Int) : ∀ {ks : List (List L2.Key × V)} {kvs : List (List Int × D)}, DqK K G ks kvs → DqK K G (ks ++ [(keyI k, v)]) (kvs ++ [(k, d)])
  | [], [], _ => ⟨rfl, hv, trivial⟩
  | [], _ :: _, h => h.elim
  | _ :: _, [], h => h.elim
  | p :: ks, q :: kvs, h => ⟨h.1, h.2.1, DqK.snoc hv k h.2.2⟩
theorem DqK.put {v : V} {d : D} {ks : List (List L2.Key × V)} {kvs : List (List Int × D)} (k : List Int) (h : DqK K G ks kvs) (hv : Dq K G v d) : DqK K G (putK ks (keyI k) v) (kPut kvs k d) := by
  unfold putK kPut
  rw [h.any k]
  split
  · exact DqK.maps hv k h
  · exact DqK.snoc hv k h
theorem DqK.len : ∀ {ks : List (List L2.Key × V)} {kvs : List (List Int × D)}, DqK K G ks kvs → ks.length = kvs.length
  | [], [], _ => rfl
  | [], _ :: _, h => h.elim
  | _ :: _, [], h => h.elim
  | _ :: _, _ :: _, h => by
    rw [List.length_cons, List.length_cons, DqK.len h.2.2]
end
/-- what can be a key -/
def keyD : D → Option (List Int)
  | .nt ds => allInts ds
  | _ => none
theorem keyD_of {K : PySem.W.Frag} {G : Hp} {v : V} {d : D} {k : List Int} (h : Dq K G v d) (e : keyD d = some k) : ∃ b, v = .ref b ∧ G b = some (.tup ((keyI k).map kV)) := by
  cases d with
  | nt ds =>
    cases h with
    | nt h1 h2 =>
      have e1 := allInts_eq e
      subst e1
      rw [h2.isInts] at h1
      rw [keyI_kV]
      exact ⟨_, rfl, h1⟩
  | _ => cases e
section
variable {K : PySem.W.Frag} {B : Hp} {O : List Addr} {I : List (Nat × Addr)} {σ : L2.St} {H H' : Hp} {env env' : Env} {v : V} {t ta tb te tk tx : TE} {f fa fb fe fk fx : EF} {W : WN}
/-- a dict, by its name -/
theorem Sta.dct (S : Sta K B O I σ H env) {i : Nat} {kvs : List (List Int × D)} (h : env[i]? = some (.nw (.dct kvs))) : ∃ p ks, σ[i]? = some (some (.ref p)) ∧ p ∈ O ∧ B p = none ∧ H p = some (.dT ks) ∧ DqK K (mi H O) ks kvs := by
  obtain ⟨p, a1, ⟨ks, a2, a3⟩, _, a4, _⟩ := S.nw i _ h
  have := a4 p adsOf_self
  exact ⟨p, ks, a1, this.1, this.2, a2, a3⟩
/-- a dict is changed in its place -/
theorem Sta.upD (S : Sta K B O I σ H env) {i : Nat} {kvs kvs' : List (List Int × D)} {p : Addr} {ks ks' : List (List L2.Key × V)} (h : env[i]? = some (.nw (.dct kvs))) (hs : σ[i]? = some (some (.ref p))) (hp : H p = some (.dT ks)) (hk : DqK K (mi H O) ks' kvs') :
    Sta K B O I σ (upd H p (.dT ks')) (env.set i (.nw (.dct kvs'))) := by
  obtain ⟨p', a1, a2, a3, a4, a5, a6⟩ := S.nw i _ h
  rw [hs] at a1
  cases a1
  have pO := a4 p adsOf_self
  have hi : i < env.length := (List.getElem?_eq_some_iff.mp h).1
  have hm : mi (upd H p (.dT ks')) O = mi H O := mi_upd_in pO.1
  have get : ∀ j, j ≠ i → (env.set i (SV.nw (.dct kvs')))[j]? = env[j]? := fun j c => List.getElem?_set_ne (Ne.symm c)
  have ne : ∀ j ds, OwnAt (env.set i (SV.nw (.dct kvs'))) j ds → j ≠ i ∧ OwnAt env j ds := fun j ds z => by
    by_cases c : j = i
    · subst c
      unfold OwnAt at z
      rw [List.getElem?_set_self hi] at z
      rcases z with z | z <;> cases z
    · exact ⟨c, (own_set c).mp z⟩
  refine ⟨by simp [S.len], fun j d hj => ?_, fun j ds hj => ?_, fun j l ds es q hj hl e1 e2 => S.sep j l ds es q (ne j ds hj).2 (ne l es hl).2 e1 e2, fun a o ha => ?_, fun q hq => ?_, fun j q hj => ?_, fun j w hj => ?_, fun q xs hq => ?_⟩
  · rw [hm]
    by_cases c : j = i
    · subst c
      rw [List.getElem?_set_self hi] at hj
      cases hj
    · rw [get j c] at hj
      exact S.fz j d hj
  · rw [hm]
    obtain ⟨c, z⟩ := ne j ds hj
    obtain ⟨q, xs, k1, k2, k3, k4, k5⟩ := S.ow j ds z
    refine ⟨q, xs, k1, k2, ?_, k4, k5⟩
    rw [upd_ne (fun y => by rw [y, hp] at k3; cases k3)]
    exact k3
  · rw [upd_ne (fun y => by rw [y, pO.2] at ha; cases ha)]
    exact S.base a o ha
  · by_cases c : q = p
    · subst c
      exact ⟨_, upd_same⟩
    · rw [upd_ne c]
      exact S.dom q hq
  · obtain ⟨k1, ds, k2⟩ := S.pin j q hj
    have c : j ≠ i := fun z => by
      subst z
      rw [h] at k2
      cases k2
    exact ⟨k1, ds, by rw [get j c]; exact k2⟩
  · by_cases c : j = i
    · subst c
      rw [List.getElem?_set_self hi] at hj
      cases hj
      refine ⟨p, hs, ⟨ks', upd_same, by rw [hm]; exact hk⟩, by show [p].Nodup; simp, fun a ha => ?_, fun l ds a hl e => ?_, fun l w' q hl hw e a ha => ?_⟩
      · rw [show a = p from List.mem_singleton.mp ha]
        exact pO
      · exact a5 l ds a (ne l ds hl).2 e
      · rw [get l hl] at hw
        have e0 : a = p := List.mem_singleton.mp ha
        subst e0
        obtain ⟨q', b1, _, _, b4, b5, b6⟩ := S.nw l w' hw
        rw [e] at b1
        cases b1
        have nq : q ≠ a := fun z => by
          subst z
          exact a6 l w' q hl hw e q adsOf_self adsOf_self
        rw [adsOf_eq (upd_ne nq)]
        exact a6 l w' q hl hw e a adsOf_self
    · rw [get j c] at hj
      obtain ⟨q, b1, b2, b3, b4, b5, b6⟩ := S.nw j w hj
      have np : ∀ a, a ∈ adsOf H q w → a ≠ p := fun a ha z => by
        subst z
        exact b6 i _ a (Ne.symm c) h hs a ha adsOf_self
      have e0 : adsOf (upd H p (.dT ks')) q w = adsOf H q w := adsOf_eq (upd_ne (np q adsOf_self))
      refine ⟨q, b1, b2.mono (by rw [hm]; exact Same.refl _) fun a ha => upd_ne (np a ha), by rw [e0]; exact b3, by rw [e0]; exact b4, fun l ds a hl e => ?_, fun l w' r hl hw e a ha => ?_⟩
      · rw [e0]
        exact b5 l ds a (ne l ds hl).2 e
      · rw [e0] at ha
        by_cases c' : l = i
        · subst c'
          rw [List.getElem?_set_self hi] at hw
          cases hw
          rw [hs] at e
          cases e
          exact fun z => np a ha (List.mem_singleton.mp z)
        · rw [get l c'] at hw
          obtain ⟨r', d1, _, _, d4, d5, d6⟩ := S.nw l w' hw
          rw [e] at d1
          cases d1
          have nr : r ≠ p := fun z => by
            subst z
            exact d6 i _ r (Ne.symm c') h hs r adsOf_self adsOf_self
          rw [adsOf_eq (upd_ne nr)]
          exact b6 l w' r hl hw e a ha
  · by_cases c : q = p
    · subst c
      rw [upd_same]
      exact fun z => by cases z
    · rw [upd_ne c]
      exact S.nt q xs hq
/-- a name gets a new dict -/
theorem Sta.newD {i : Nat} {p : Addr} (S : Sta K B O I σ H env) (hp : H p = none) (e : putS i (.nw (.dct [])) env = some env') : Sta K B (p :: O) I (σ.set i (some (.ref p))) (upd H p (.dT [])) env' := by
  obtain ⟨h1, h2, rfl⟩ := putS_of e
  have hs : i < σ.length := by rw [S.len]; exact h2
  have hO : p ∉ O := not_dom S.dom hp
  have up : Same H (upd H p (.dT [])) := same_new hp
  have sm : Same (mi H O) (mi (upd H p (.dT [])) (p :: O)) := fun a o ha => by
    obtain ⟨z1, z2⟩ := mi_some ha
    exact mi_of (fun y => (List.mem_cons.mp y).elim (fun y => by rw [y, hp] at z2; cases z2) z1) (up _ _ z2)
  have get : ∀ j, j ≠ i → (env.set i (SV.nw (.dct [])))[j]? = env[j]? := fun j c => List.getElem?_set_ne (Ne.symm c)
  have gets : ∀ j, j ≠ i → (σ.set i (some (V.ref p)))[j]? = σ[j]? := fun j c => List.getElem?_set_ne (Ne.symm c)
  have ne : ∀ j ds, OwnAt (env.set i (SV.nw (.dct []))) j ds → j ≠ i ∧ OwnAt env j ds := fun j ds z => by
    by_cases c : j = i
    · subst c
      unfold OwnAt at z
      rw [List.getElem?_set_self h2] at z
      rcases z with z | z <;> cases z
    · exact ⟨c, (own_set c).mp z⟩
  refine ⟨by simp [S.len], fun j d hj => ?_, fun j ds hj => ?_, fun j l ds es q hj hl e1 e2 => ?_, S.base.trans up, fun q hq => ?_, fun j q hj => ?_, fun j w hj => ?_, fun q xs hq => ?_⟩
  · by_cases c : j = i
    · subst c
      rw [List.getElem?_set_self h2] at hj
      cases hj
    · rw [get j c] at hj
      rw [gets j c]
      obtain ⟨w, k1, k2⟩ := S.fz j d hj
      exact ⟨w, k1, Dq.mono sm _ _ k2⟩
  · obtain ⟨c, z⟩ := ne j ds hj
    rw [gets j c]
    obtain ⟨q, xs, k1, k2, k3, k4, k5⟩ := S.ow j ds z
    exact ⟨q, xs, k1, List.mem_cons_of_mem _ k2, up _ _ k3, DqA.mono sm _ _ k4, k5⟩
  · obtain ⟨c, z⟩ := ne j ds hj
    obtain ⟨c', z'⟩ := ne l es hl
    rw [gets j c] at e1
    rw [gets l c'] at e2
    exact S.sep j l ds es q z z' e1 e2
  · rcases List.mem_cons.mp hq with rfl | hq
    · exact ⟨_, upd_same⟩
    · obtain ⟨o, z⟩ := S.dom q hq
      exact ⟨o, up _ _ z⟩
  · obtain ⟨k1, ds, k2⟩ := S.pin j q hj
    have c : j ≠ i := fun z => by
      subst z
      rw [isIo_of k2] at h1
      cases h1
    rw [get j c, gets j c]
    exact ⟨k1, ds, k2⟩
  · have old : ∀ {l : Nat} {w : OV}, env[l]? = some (.nw w) → ∀ {q : Addr}, σ[l]? = some (some (.ref q)) → (∀ a, a ∈ adsOf H q w → a ∈ O) ∧ adsOf (upd H p (.dT [])) q w = adsOf H q w := fun {l w} hl {q} hq => by
      obtain ⟨q', b1, _, _, b4, _⟩ := S.nw l w hl
      rw [hq] at b1
      cases b1
      refine ⟨fun a ha => (b4 a ha).1, adsOf_eq (upd_ne fun z => ?_)⟩
      subst z
      exact hO (b4 q adsOf_self).1
    by_cases c : j = i
    · subst c
      rw [List.getElem?_set_self h2] at hj
      cases hj
      refine ⟨p, List.getElem?_set_self hs, ⟨[], upd_same, trivial⟩, by show [p].Nodup; simp, fun a ha => ?_, fun l ds a hl e z => ?_, fun l w' q hl hw e a ha z => ?_⟩
      · rw [show a = p from List.mem_singleton.mp ha]
        exact ⟨List.mem_cons_self, S.base.free hp⟩
      · obtain ⟨c, y⟩ := ne l ds hl
        rw [gets l c] at e
        obtain ⟨q, xs, k1, k2, _⟩ := S.ow l ds y
        rw [e] at k1
        cases k1
        rw [show a = p from List.mem_singleton.mp z] at k2
        exact hO k2
      · rw [get l hl] at hw
        rw [gets l hl] at e
        obtain ⟨y1, y2⟩ := old hw e
        rw [y2] at z
        rw [show a = p from List.mem_singleton.mp ha] at z
        exact hO (y1 p z)
    · rw [get j c] at hj
      rw [gets j c]
      obtain ⟨q, b1, b2, b3, b4, b5, b6⟩ := S.nw j w hj
      obtain ⟨y1, y2⟩ := old hj b1
      refine ⟨q, b1, b2.mono sm fun a ha => upd_ne fun z => hO (z ▸ y1 a ha), by rw [y2]; exact b3, fun a ha => ?_, fun l ds a hl e => ?_, fun l w' r hl hw e a ha => ?_⟩
      · rw [y2] at ha
        exact ⟨List.mem_cons_of_mem _ (b4 a ha).1, (b4 a ha).2⟩
      · obtain ⟨c', y⟩ := ne l ds hl
        rw [gets l c'] at e
        rw [y2]
        exact b5 l ds a y e
      · rw [y2] at ha
        by_cases c' : l = i
        · subst c'
          rw [List.getElem?_set_self h2] at hw
          cases hw
          rw [List.getElem?_set_self hs] at e
          cases e
          exact fun z => hO (by rw [← show a = p from List.mem_singleton.mp z]; exact y1 a ha)
        · rw [get l c'] at hw
          rw [gets l c'] at e
          rw [(old hw e).2]
          exact b6 l w' r hl hw e a ha
  · rcases List.mem_cons.mp hq with rfl | hq
    · rw [upd_same]
      exact fun z => by cases z
    · exact S.ntS hq (fun o z => up _ _ z) xs
/-! x = {} -/
def fDNew (i : Nat) : SFn := fun env => (putS i (.nw (.dct [])) env).bind fun e => some (.nx e)
theorem ss_dnew {i : Nat} : SndS K W (tAsg tDNewT (gName i)) (fDNew i) := by
  intro B O I σ H env o S e D k
  obtain ⟨env2, e2, e⟩ := bnd e
  cases e
  intro p hp
  exact k (p :: O) _ _ ⟨fun a h _ => List.mem_cons_of_mem _ h, fun a h => (List.mem_cons.mp h).elim (fun z => .inr (z ▸ S.base.free hp)) .inl⟩ (S.newD hp e2)
/-- a tuple that is made here, as a key -/
def fTupN (fa : AF) : EF := fun env => (fa env).bind fun a => (allVal a.1).bind fun ds => if ds.length ≤ 10000000 then some (.val (.nt ds), a.2) else none
theorem snd_tupN {t : TA} {fa : AF} (h1 : SndA K t fa) : Snd K (tTup t) (fTupN fa) := by
  intro B O I σ H env rv env' S e Q q
  obtain ⟨⟨r1, env1⟩, e1, e⟩ := bnd e
  obtain ⟨ds, e2, e⟩ := bnd e
  dsimp only at e2 e
  split at e
  · cases e
    refine h1 B O I σ H env r1 _ S e1 _ fun vs H1 S1 P1 => ?_
    have k := post_vals P1 e2
    refine ⟨by rw [k.length]; exact line_of (by assumption), fun p hp => q _ _ ?_⟩
    have hO : p ∉ O := not_dom S1.dom hp
    have e : Same H1 (upd H1 p (.tup vs)) := same_new hp
    exact ⟨S1.grow e, .nt (mi_of hO upd_same) (DqA.mono (mi_mono e) _ _ k)⟩
  · cases e
/-- a name that holds such a tuple, as any thing -/
def fVarN (i : Nat) : EF := fun env => match env[i]? with
  | some (.fz (.nt ds)) => some (.val (.tup ds), env)
  | _ => none
theorem snd_varN (i : Nat) : Snd K (tVar i) (fVarN i) := by
  intro B O I σ H env rv env' S e Q q
  unfold fVarN at e
  split at e
  · rename_i ds hi
    cases e
    obtain ⟨v, h1, h2⟩ := S.fz i _ hi
    cases h2 with
    | nt h3 h4 => exact ⟨_, h1, q _ H ⟨S, .tup (.inl (.inl h3)) h4⟩⟩
  · cases e
def dctAt (env : Env) (i : Nat) : Option (List (List Int × D)) := match env[i]? with
  | some (.nw (.dct kvs)) => some kvs
  | _ => none
theorem dctAt_of {i : Nat} {kvs : List (List Int × D)} (h : dctAt env i = some kvs) : env[i]? = some (.nw (.dct kvs)) := by
  unfold dctAt at h
  split at h
  · cases h
    assumption
  · cases h
theorem DGet.own {p b : Addr} {ks : List (List L2.Key × V)} {k : List Int} (hp : H p = some (.dT ks)) (hb : mi H O b = some (.tup ((keyI k).map kV))) : DGet H p (.ref b) (valV ks (keyI k)) := .t hp (mi_some hb).2
/-! d[k] -/
def fDIx (i : Nat) (fk : EF) : EF := fun env => (dctAt env i).bind fun _ => (fk env).bind fun a => match a.1 with
  | .val kd => (keyD kd).bind fun k => (dctAt a.2 i).bind fun kvs => (kVal kvs k).bind fun d => some (.val d, a.2)
  | _ => none
theorem snd_dix {i : Nat} (hk : Snd K tk fk) : Snd K (tDGet (tVar i) tk) (fDIx i fk) := by
  intro B O I σ H env rv env' S e Q q
  obtain ⟨kvs0, e0, e⟩ := bnd e
  obtain ⟨⟨r1, env1⟩, e1, e⟩ := bnd e
  dsimp only at e
  split at e
  · rename_i kd
    obtain ⟨k, e2, e⟩ := bnd e
    obtain ⟨kvs, e3, e⟩ := bnd e
    obtain ⟨d, e4, e⟩ := bnd e
    cases e
    obtain ⟨p, ks, s1, _⟩ := S.dct (dctAt_of e0)
    refine ⟨_, s1, ?_⟩
    refine hk B O I σ H env _ _ S e1 _ fun y H1 P1 => ?_
    obtain ⟨S1, dy⟩ := P1
    obtain ⟨p', ks', s1', pO, _, hp, hd⟩ := S1.dct (dctAt_of e3)
    rw [s1] at s1'
    cases s1'
    obtain ⟨b, rfl, hb⟩ := keyD_of dy e2
    rcases hd.val k with ⟨_, z⟩ | ⟨v, d', z1, z2, z3⟩
    · rw [z] at e4
      cases e4
    · rw [z2] at e4
      cases e4
      exact ⟨p, v, rfl, by rw [← z1]; exact DGet.own hp hb, q v H1 ⟨S1, z3⟩⟩
  · cases e
/-! d.get(k, x) -/
def fDGet2 (i : Nat) (fk fx : EF) : EF := fun env => (dctAt env i).bind fun _ => (fk env).bind fun a => match a.1 with
  | .val kd => (keyD kd).bind fun k => (fx a.2).bind fun b => match frz b.1 with
    | .val x => (dctAt b.2 i).bind fun kvs => some (.val ((kVal kvs k).getD x), b.2)
    | _ => none
  | _ => none
theorem snd_dget2 {i : Nat} (hk : Snd K tk fk) (hx : Snd K tx fx) : Snd K (tDGet2 (tVar i) tk tx) (fDGet2 i fk fx) := by
  intro B O I σ H env rv env' S e Q q
  obtain ⟨kvs0, e0, e⟩ := bnd e
  obtain ⟨⟨r1, env1⟩, e1, e⟩ := bnd e
  dsimp only at e
  split at e
  · rename_i kd
    obtain ⟨k, e2, e⟩ := bnd e
    obtain ⟨⟨r2, env2⟩, e3, e⟩ := bnd e
    dsimp only at e
    split at e
    · rename_i x hx2
      obtain ⟨kvs, e4, e⟩ := bnd e
      cases e
      obtain ⟨p, ks, s1, pO0, _, hp0, _⟩ := S.dct (dctAt_of e0)
      refine ⟨_, s1, p, rfl, .inr ⟨ks, .inl hp0⟩, ?_⟩
      refine hk B O I σ H env _ _ S e1 _ fun y H1 P1 => ?_
      have S1 := P1.sta
      refine hx _ O I σ H1 _ r2 _ S1.strong e3 _ fun z H2 P2 => ?_
      have P3 := Post.later (r := .val kd) P1 P2.sta
      have P4 := (P2.weakN S1.base_keep).frz
      rw [hx2] at P4
      obtain ⟨S2, dz⟩ := P4
      obtain ⟨p', ks', s1', pO, _, hp, hd⟩ := S2.dct (dctAt_of e4)
      rw [s1] at s1'
      cases s1'
      obtain ⟨b, rfl, hb⟩ := keyD_of P3.2 e2
      refine ⟨_, DGet.own hp hb, ?_⟩
      rcases hd.val k with ⟨z1, z2⟩ | ⟨v, d', z1, z2, z3⟩
      · rw [z1]
        refine q _ _ ⟨S2, ?_⟩
        rw [z2]
        exact dz
      · rw [z1]
        refine q _ _ ⟨S2, ?_⟩
        rw [z2]
        exact z3
    · cases e
  · cases e
/-! k in d -/
def fDIn (i : Nat) (neg : Bool) (fk : EF) : EF := fun env => (fk env).bind fun a => match a.1 with
  | .val kd => (keyD kd).bind fun k => (dctAt a.2 i).bind fun kvs => some (.val (.bl ((kVal kvs k).isSome != neg)), a.2)
  | _ => none
theorem snd_din {i : Nat} (hk : Snd K tk fk) : Snd K (tDIn tk (tVar i)) (fDIn i false fk) := by
  intro B O I σ H env rv env' S e Q q
  obtain ⟨⟨r1, env1⟩, e1, e⟩ := bnd e
  dsimp only at e
  split at e
  · rename_i kd
    obtain ⟨k, e2, e⟩ := bnd e
    obtain ⟨kvs, e3, e⟩ := bnd e
    cases e
    refine hk B O I σ H env _ _ S e1 _ fun y H1 P1 => ?_
    obtain ⟨S1, dy⟩ := P1
    obtain ⟨p, ks, s1, pO, _, hp, hd⟩ := S1.dct (dctAt_of e3)
    obtain ⟨b, rfl, hb⟩ := keyD_of dy e2
    refine ⟨_, s1, p, _, rfl, DGet.own hp hb, q _ _ ⟨S1, ?_⟩⟩
    rcases hd.val k with ⟨z1, z2⟩ | ⟨v, d', z1, z2, z3⟩
    · rw [z1, z2]
      exact .bl _
    · rw [z1, z2]
      exact .bl _
  · cases e
theorem snd_dnotin {i : Nat} (hk : Snd K tk fk) : Snd K (tDNotIn tk (tVar i)) (fDIn i true fk) := by
  intro B O I σ H env rv env' S e Q q
  obtain ⟨⟨r1, env1⟩, e1, e⟩ := bnd e
  dsimp only at e
  split at e
  · rename_i kd
    obtain ⟨k, e2, e⟩ := bnd e
    obtain ⟨kvs, e3, e⟩ := bnd e
    cases e
    refine hk B O I σ H env _ _ S e1 _ fun y H1 P1 => ?_
    obtain ⟨S1, dy⟩ := P1
    obtain ⟨p, ks, s1, pO, _, hp, hd⟩ := S1.dct (dctAt_of e3)
    obtain ⟨b, rfl, hb⟩ := keyD_of dy e2
    refine ⟨_, s1, p, _, rfl, DGet.own hp hb, q _ _ ⟨S1, ?_⟩⟩
    rcases hd.val k with ⟨z1, z2⟩ | ⟨v, d', z1, z2, z3⟩
    · rw [z1, z2]
      exact .bl _
    · rw [z1, z2]
      exact .bl _
  · cases e
/-! d[k] = e -/
def fDPut (i : Nat) (fk fe : EF) : SFn := fun env => (fe env).bind fun a => (dctAt a.2 i).bind fun _ => (fk a.2).bind fun b => match frz a.1, b.1 with
  | .val d, .val kd => (keyD kd).bind fun k => (dctAt b.2 i).bind fun kvs => if kvs.length ≤ 1000000 then some (.nx (b.2.set i (.nw (.dct (kPut kvs k d))))) else none
  | _, _ => none
theorem ss_dput {i : Nat} (he : Snd K te fe) (hk : Snd K tk fk) : SndS K W (tAsg te (L2.gSub (tVar i) tk rSetD)) (fDPut i fk fe) := by
  intro B O I σ H env o S e D kk
  obtain ⟨⟨r1, env1⟩, e1, e⟩ := bnd e
  obtain ⟨kvs0, e0, e⟩ := bnd e
  obtain ⟨⟨r2, env2⟩, e2, e⟩ := bnd e
  dsimp only at e e0 e2
  split at e
  · rename_i d kd hd
    obtain ⟨k, e3, e⟩ := bnd e
    obtain ⟨kvs, e4, e⟩ := bnd e
    split at e
    · rename_i hl
      cases e
      refine he B O I σ H env r1 env1 S e1 _ fun x H1 P1 => ?_
      have P1' := P1.frz
      have S1 := P1'.sta
      obtain ⟨p, ks0, s1, _⟩ := S1.dct (dctAt_of e0)
      refine ⟨_, s1, ?_⟩
      refine hk _ O I σ H1 env1 _ env2 S1.strong e2 _ fun y H2 P2 => ?_
      have P3 := P1'.later P2.1
      rw [hd] at P3
      obtain ⟨S3, dx⟩ := P3
      obtain ⟨p', ks, s1', pO, _, hp, hk2⟩ := S3.dct (dctAt_of e4)
      rw [s1] at s1'
      cases s1'
      obtain ⟨b, rfl, hb⟩ := keyD_of P2.2 e3
      refine ⟨p, _, rfl, .t hp (mi_some hb).2 ?_, ?_⟩
      · rw [hk2.len]
        exact line_lt (by omega)
      · exact kk O σ _ .refl (S3.upD (dctAt_of e4) s1 hp (hk2.put k dx))
    · cases e
  · cases e
/-! a, b, c = x, y, z -/
def fPar3 (i j l : Nat) (fa : AF) : SFn := fun env => (fa env).bind fun a => (allVal a.1).bind fun ds => match ds with
  | [d, e, g] => (putS i (.fz d) a.2).bind fun e1 => (putS j (.fz e) e1).bind fun e2 => (putS l (.fz g) e2).bind fun e3 => some (.nx e3)
  | _ => none
theorem ss_par3 {i j l : Nat} {t : TA} {fa : AF} (h1 : SndA K t fa) : SndS K W (tPar3 i j l t) (fPar3 i j l fa) := by
  intro B O I σ H env o S e D k
  obtain ⟨⟨r1, env1⟩, e1, e⟩ := bnd e
  obtain ⟨ds, e2, e⟩ := bnd e
  dsimp only at e2 e
  split at e
  · obtain ⟨env2, e3, e⟩ := bnd e
    obtain ⟨env3, e4, e⟩ := bnd e
    obtain ⟨env4, e5, e⟩ := bnd e
    cases e
    refine h1 B O I σ H env r1 env1 S e1 _ fun vs H1 S1 P1 => ?_
    have q := post_vals P1 e2
    cases q with
    | cons q1 q2 =>
      cases q2 with
      | cons q2 q3 =>
        cases q3 with
        | cons q3 q4 =>
          cases q4
          exact ⟨_, _, _, rfl, k O _ H1 .refl (((S1.put q1 e3).put q2 e4).put q3 e5)⟩
  · cases e
/-! len(d) -/
def fDLen (i : Nat) : EF := fun env => (dctAt env i).bind fun kvs => some (.val (.int kvs.length), env)
end
end Dv

/-! # sorted(d), d a dict whose keys are pairs of ints -/
namespace Big
open PySem PySem.Spec PyProof.Rows L2
abbrev keyP (p : Int × Int) : List L2.Key := [Sum.inl p.1, Sum.inl p.2]
section
variable {H : Hp}
theorem rows_paired : ∀ {kvs : List (List L2.Key × V)} {ks : List (List L2.Key × Addr × Value)} {ns : List (Int × Int)}, Paired (fun (p : List L2.Key × V) (q : List L2.Key × Addr × Value) => p.1 = q.1 ∧ H q.2.1 = some (.tup (p.1.map kV)) ∧ RelV p.2 q.2.2) kvs ks → kvs.map (·.1) = ns.map keyP →
    ∃ L : List (Addr × List Int), (ks.map fun x => Value.ref x.2.1) = L.map (fun q => Value.ref q.1) ∧ L.map (·.2) = ns.map (fun p => [p.1, p.2]) ∧ ∀ q, q ∈ L → H q.1 = some (.tup (q.2.map V.int))
  | _, _, ns, .nil, e => by
    cases ns with
    | nil => exact ⟨[], rfl, rfl, fun q hq => nomatch hq⟩
    | cons a b => cases e
  | _, _, ns, @Paired.cons _ _ _ p q ps qs h t, e => by
    cases ns with
    | nil => cases e
    | cons n ns =>
      rw [List.map_cons, List.map_cons, List.cons.injEq] at e
      obtain ⟨L, e1, e2, e3⟩ := rows_paired t e.2
      refine ⟨(q.2.1, [n.1, n.2]) :: L, by rw [List.map_cons, e1]; rfl, by rw [List.map_cons, e2]; rfl, fun r hr => ?_⟩
      rcases List.mem_cons.mp hr with z | z
      · rw [z]
        have h1 := h.2.1
        rw [e.1] at h1
        exact h1
      · exact e3 r z
end
theorem keys_paired {R : List L2.Key × V → List L2.Key × Addr × Value → Prop} (hR : ∀ p q, R p q → p.1 = q.1) : ∀ {kvs : List (List L2.Key × V)} {ks : List (List L2.Key × Addr × Value)}, Paired R kvs ks → kvs.map (·.1) = ks.map (·.1)
  | _, _, .nil => rfl
  | _, _, .cons h t => by rw [List.map_cons, List.map_cons, keys_paired hR t, hR _ _ h]
section
variable {X : Cx}
def rSortDT : List V → Hp → VK → Prop := fun xs H Q => ∃ (a : Addr) (kvs : List (List L2.Key × V)) (ns : List (Int × Int)), xs = [.ref a] ∧ Rd H a (.dT kvs) ∧ kvs.map (·.1) = ns.map keyP ∧ kvs.length ≤ 1000000 ∧
  ∀ (N : List (Addr × List Int)) (p : Addr), (N.map (·.2)).Perm (ns.map fun p => [p.1, p.2]) → (N.map (·.2)).Nodup → N.Pairwise (fun p r => SrtO.lexB (kv r.2) (kv p.2) = false) → (∀ q, q ∈ N → H q.1 = some (.tup (q.2.map V.int))) → H p = none → Q (.ref p) (upd H p (.lst (N.map fun q => V.ref q.1)))
theorem cr_sortedDT (hc : X.calm = true) : CallR X (.builtin "sorted") rSortDT := by
  intro pins s σ H xs us Q I r h
  obtain ⟨a, kvs, ns, rfl, ha, hks, most, q⟩ := h
  rw [Vals.ref1 r]
  obtain ⟨z, hs, ks, pr, o, es, ep, ho, hx, hdt, he, hn⟩ := (show ObjOk X.prog X.w H s.heap a (.dT kvs) from ha.ok I.hok)
  have l1 : es.size = ks.length := size_of_entries he
  have l2 : kvs.length = ks.length := Paired.length pr
  obtain ⟨L, f1, f2, f3⟩ := rows_paired pr hks
  have l3 : L.length = ks.length := by
    have := congrArg List.length f1
    simpa using this.symm
  refine Calls.call_function_entry kind_sorted plain_sorted entry_sorted (args_sorted1 _) ?_
  unfold Builtin.«sorted»
  refine wpAny_bind (m := checkCount "sorted" 1 1 _) (wpAny_pure ?_)
  refine wpAny_bind (PySem.W.kdu_collect (A := X.A.in1) (L2.kdl_raw hs hx hdt) (I.ok.hd hc) ho (by rw [sizeLine_eq]; omega) fun h' tk acc hk hacc => ?_)
  have al : acc.toList.length = ks.length := by rw [Array.length_toList, hacc.1, l1]
  have ea : acc.toList = L.map fun q => Value.ref q.1 := by
    rw [← f1]
    refine List.ext_getElem (by rw [al, List.length_map]) fun j h1 h2 => ?_
    obtain ⟨en, e1, e2⟩ := hacc.2 j acc.toList[j] (by rw [← Array.getElem?_toList]; exact List.getElem?_eq_getElem h1)
    have e3 := entry_at he j
    rw [e1] at e3
    have hj : j < ks.length := by rw [← al]; exact h1
    rw [List.getElem?_eq_getElem hj] at e3
    have e4 : en = entryOfKey (tupleKind (mixKind X.prog X.w)) ks[j] := Option.some.inj e3
    rw [e2, e4, List.getElem_map]
    rfl
  rw [ea]
  have I1 : Inv X pins σ H { s with heap := h', toks := tk } := I.kept hk
  have one : ∀ q, q ∈ L → ∀ r, r ∈ L → q.1 = r.1 → q = r := fun q hq r hr e => by
    have a1 := f3 q hq
    have a2 := f3 r hr
    rw [e, a2] at a1
    have a3 : r.2.map V.int = q.2.map V.int := by
      injection a1 with a1
      injection a1
    refine Prod.ext e ?_
    have inj : ∀ {x y : List Int}, x.map V.int = y.map V.int → x = y := by
      intro x
      induction x with
      | nil => intro y h; cases y with | nil => rfl | cons b c => cases h
      | cons b c ih =>
        intro y h
        cases y with
        | nil => cases h
        | cons b' c' =>
          rw [List.map_cons, List.map_cons, List.cons.injEq] at h
          injection h.1 with h1
          rw [h1, ih h.2]
    exact (inj a3).symm
  have prs : ∀ q, q ∈ L → ∃ x y, q.2 = [x, y] := fun q hq => by
    have m : q.2 ∈ L.map (·.2) := List.mem_map.mpr ⟨q, hq, rfl⟩
    rw [f2] at m
    obtain ⟨r, _, e⟩ := List.mem_map.mp m
    exact ⟨_, _, e.symm⟩
  generalize hvs : L.map (fun q => Value.ref q.1) = vs at ea
  have lv : vs.length = L.length := by rw [← hvs, List.length_map]
  have lz : vs.length ≤ sizeLine := by rw [sizeLine_eq]; omega
  refine wpAny_bind (wpAny_newList ?_ lz)
  have hoL : (h'.push (seqObj "list" vs.toArray 0)).get? h'.objs.size = some (seqObj "list" vs.toArray 0) := Heap.get?_push_size _ rfl
  have pairs : ∀ v ∈ vs, Srt.IsPair (h'.push (seqObj "list" vs.toArray 0)) v (kv (rowAt L v).2).1 (kv (rowAt L v).2).2 := fun v hv => by
    rw [← hvs] at hv
    obtain ⟨q, hq, rfl⟩ := List.mem_map.mp hv
    rw [rowAt_of one hq]
    obtain ⟨x, y, exy⟩ := prs q hq
    obtain ⟨_, its, rv, u, b1, b2, n, b3⟩ := (show ObjOk X.prog X.w H h' q.1 (.tup (q.2.map V.int)) from I1.hok _ _ (f3 q hq))
    rw [exy] at rv ⊢
    have : ∃ t1 t2, its = [.int x t1, .int y t2] := by
      cases rv with
      | cons c1 d1 =>
        cases d1 with
        | cons c2 d2 =>
          cases d2
          obtain ⟨t1, rfl⟩ := c1
          obtain ⟨t2, rfl⟩ := c2
          exact ⟨t1, t2, rfl⟩
    obtain ⟨t1, t2, rfl⟩ := this
    exact ⟨q.1, u, t1, t2, n, rfl, Heap.get?_push_of_some (seqObj "list" vs.toArray 0) b1, b2, b3⟩
  refine wpAny_bind (wpAny_holding (wpAny_call_entry slot_list_sort ⟨_, hoL, rfl⟩ entry_list_sort (SrtO.list_sort_ord (s := { s with heap := h'.push (seqObj "list" vs.toArray 0), toks := tk }) (SrtO.swo_lex fun v => kv (rowAt L v).2) hoL lz (fun h2 => SrtO.pairs_sortableO (by omega) pairs fun o ho c => ?_) fun res r1 r2 => ⟨_, rfl, ?_⟩) (args_list_sort _)))
  · have e' : some o = some (seqObj "list" vs.toArray 0) := ho.symm.trans hoL
    cases e'
    exact absurd (Value.type.inj c) (by decide)
  · obtain ⟨c, hcc⟩ := sortedHeap_at (vs := vs) (out := res.toArray) hoL
    have back : ∀ v ∈ res, Value.ref (rowAt L v).1 = v := fun v hv => by
      have m := r2.perm.mem_iff.mp hv
      rw [← hvs] at m
      obtain ⟨q, hq, rfl⟩ := List.mem_map.mp m
      rw [rowAt_of one hq]
    have e3 : res = (res.map (rowAt L)).map fun r => Value.ref r.1 := by
      rw [List.map_map]
      exact ((List.map_congr_left (g := id) back).trans (List.map_id res)).symm
    have e4 : vs.map (rowAt L) = L := by
      rw [← hvs, List.map_map]
      exact (List.map_congr_left fun q hq => rowAt_of one hq).trans (List.map_id L)
    have pm : (res.map (rowAt L)).Perm L := by
      have := r2.perm.map (rowAt L)
      rw [e4] at this
      exact this
    have hlen : ((res.map (rowAt L)).map fun q => V.ref q.1).length ≤ sizeLine := by
      rw [List.length_map, sizeLine_eq, pm.length_eq]
      omega
    have hv : Vals ((res.map (rowAt L)).map fun q => V.ref q.1) res := by
      conv => rhs; rw [e3]
      exact vals_of_refs _
    refine wpAny_pure ⟨_, rfl, .ref h'.objs.size, upd H h'.objs.size (.lst ((res.map (rowAt L)).map fun q => V.ref q.1)), I1.laid (t' := tk) (fun b u e => ?_) (Nat.le_refl _) (show ObjOk X.prog X.w _ _ _ (.lst _) from ⟨hlen, res, c, hv, hcc⟩), rfl, ?_⟩
    · have hb : b < h'.objs.size := Heap.lt_size e
      rw [sortedHeap_old (Nat.ne_of_lt hb) (by rw [size_push']; exact Nat.lt_succ_of_lt hb)]
      exact Heap.get?_push_of_some _ e
    · have nd : (L.map (·.2)).Nodup := by
        have n1 : (ns.map keyP).Nodup := by
          rw [← hks, keys_paired (fun p q h => h.1) pr]
          exact hn
        rw [f2]
        refine List.pairwise_map.mpr ((List.pairwise_map.mp n1).imp fun {x y} h z => h ?_)
        injection z with z1 z2
        injection z2 with z2
        unfold keyP
        rw [z1, z2]
      refine q _ _ ?_ ((pm.map (·.2)).nodup_iff.mpr nd) (List.pairwise_map.mpr r1) (fun r hr => f3 r (pm.mem_iff.mp hr)) (I1.hok.fresh (Nat.le_refl _))
      rw [← f2]
      exact pm.map _
end
end Big
namespace Dv
open PySem L2
/-- the keys, if they are pairs -/
def pairK : List (List Int × D) → Option (List (Int × Int))
  | [] => some []
  | ([x, y], _) :: r => (pairK r).bind fun ps => some ((x, y) :: ps)
  | _ => none
section
variable {K : PySem.W.Frag} {B : Hp} {O : List Addr} {I : List (Nat × Addr)} {σ : L2.St} {H H' G : Hp} {env env' : Env} {v : V} {W : WN}
theorem DqK.keys : ∀ {ks : List (List L2.Key × V)} {kvs : List (List Int × D)} {ns : List (Int × Int)}, DqK K G ks kvs → pairK kvs = some ns → ks.map (·.1) = ns.map Big.keyP ∧ kvs.map (·.1) = ns.map fun p => [p.1, p.2]
  | [], [], _, _, e => by cases e; exact ⟨rfl, rfl⟩
  | [], _ :: _, _, h, _ => h.elim
  | _ :: _, [], _, h, _ => h.elim
  | p :: ks, (k, d) :: kvs, ns, h, e => by
    obtain ⟨h1, h2, h3⟩ := h
    unfold pairK at e
    split at e
    · contradiction
    · rename_i x y d' r hr
      cases hr
      obtain ⟨ps, e1, e2⟩ := bnd e
      cases e2
      obtain ⟨g1, g2⟩ := DqK.keys h3 e1
      exact ⟨by rw [List.map_cons, List.map_cons, g1, h1]; rfl, by rw [List.map_cons, List.map_cons, g2]⟩
    · cases e
/-- sorted(d) -/
def fDSort (i : Nat) : EF := fun env => (dctAt env i).bind fun kvs => (pairK kvs).bind fun ps => if kvs.length ≤ 1000000 then some (.new ((srtP ps).map pD), env) else none
theorem snd_dsort {i : Nat} : Snd K (tCB Big.rSortDT (tCons (tVar i) tNil)) (fDSort i) := by
  intro B O I σ H env rv env' S e Q q
  obtain ⟨kvs, e0, e⟩ := bnd e
  obtain ⟨ps, e1, e⟩ := bnd e
  split at e
  · rename_i hl
    cases e
    obtain ⟨p, ks, s1, pO, pB, hp, hd⟩ := S.dct (dctAt_of e0)
    obtain ⟨g1, g2⟩ := hd.keys e1
    refine ⟨_, s1, p, ks, ps, rfl, .inl hp, g1, by rw [hd.len]; exact hl, fun N b pm nd pw tp hb => ?_⟩
    have hbO : b ∉ O := not_dom S.dom hb
    refine q _ _ (post_new S hb ?_)
    have prN : ∀ r, r ∈ N → r.2 = [(Big.kv r.2).1, (Big.kv r.2).2] := fun r hr => by
      have m : r.2 ∈ N.map (·.2) := List.mem_map.mpr ⟨r, hr, rfl⟩
      obtain ⟨x, _, ex⟩ := List.mem_map.mp (pm.mem_iff.mp m)
      rw [← ex]
      rfl
    refine dqa_rows (fun r hr => .inl (.inl (mi_of (fun z => S.nt _ _ z (tp r hr)) (tp r hr)))) ?_
    have f4 : N.map (fun p => Big.kv p.2) = srtP ps := by
      refine str_uniq ?_ (str_srtP ps) fun x => ?_
      · refine List.pairwise_map.mpr ?_
        have nd2 : N.Pairwise fun p r => p.2 ≠ r.2 := List.pairwise_map.mp nd
        refine List.Pairwise.imp_of_mem (fun {p r} hp hr h => ?_) (nd2.and pw)
        have := SrtO.lexB_no.mp h.2
        have ne : Big.kv p.2 ≠ Big.kv r.2 := fun z => h.1 (by rw [prN p hp, prN r hr, z])
        refine Classical.byContradiction fun y => this ?_
        exact ltP2_tri ne y
      · rw [mem_srtP, List.mem_map]
        constructor
        · rintro ⟨p, hp, rfl⟩
          have m : p.2 ∈ N.map (·.2) := List.mem_map.mpr ⟨p, hp, rfl⟩
          obtain ⟨r, hr, e⟩ := List.mem_map.mp (pm.mem_iff.mp m)
          rw [← e]
          exact hr
        · intro hx
          have m : [x.1, x.2] ∈ ps.map fun p => [p.1, p.2] := List.mem_map.mpr ⟨x, hx, rfl⟩
          obtain ⟨r, hr, e⟩ := List.mem_map.mp (pm.mem_iff.mpr m)
          exact ⟨r, hr, by rw [e]; rfl⟩
    rw [← f4, List.map_map]
    exact List.map_congr_left prN
  · cases e
end
/-! # lists of own lists -/
theorem mi_ext {H : Hp} {A B : List Addr} (h : ∀ a, a ∈ A ↔ a ∈ B) : mi H A = mi H B := by
  funext a
  unfold mi
  by_cases c : a ∈ A
  · rw [if_pos c, if_pos ((h a).mp c)]
  · rw [if_neg c, if_neg (fun z => c ((h a).mpr z))]
theorem mi_cat {H : Hp} {A B : List Addr} : mi (mi H A) B = mi H (A ++ B) := by
  funext a
  unfold mi
  by_cases c : a ∈ B
  · rw [if_pos c, if_pos (List.mem_append_right _ c)]
  · rw [if_neg c]
    by_cases d : a ∈ A
    · rw [if_pos d, if_pos (List.mem_append_left _ d)]
    · rw [if_neg d, if_neg (fun z => (List.mem_append.mp z).elim d c)]
/-- new lists that nobody has yet -/
structure Fresh (K : PySem.W.Frag) (B : Hp) (O : List Addr) (I : List (Nat × Addr)) (σ : L2.St) (H : Hp) (env : Env) (qs : List Addr) (dss : List (List D)) : Prop where
  nd : qs.Nodup
  fre : ∀ q, q ∈ qs → B q = none ∧ q ∉ O
  sta : Sta K B O I σ (mi H qs) env
  ls : LsOk K (mi H (qs ++ O)) H qs dss
abbrev NF := Env → Option (List (List D) × Env)
def SndN (K : PySem.W.Frag) (t : TA) (f : NF) : Prop := ∀ B O I σ H env dss env', Sta K B O I σ H env → f env = some (dss, env') →
  ∀ Q : List V → Hp → Prop, (∀ qs H', Fresh K B O I σ H' env' qs dss → Q (qs.map V.ref) H') → t σ H Q
def fNilN : NF := fun env => some ([], env)
def fConsN (fa : EF) (fr : NF) : NF := fun env => (fa env).bind fun a => match a.1 with
  | .new ds => (fr a.2).bind fun r => some (ds :: r.1, r.2)
  | _ => none
section
variable {K : PySem.W.Frag} {B : Hp} {O : List Addr} {I : List (Nat × Addr)} {σ : L2.St} {H H' : Hp} {env env' : Env} {v : V} {t ta tb te : TE} {f fa fb fe : EF} {W : WN}
theorem LsOk.dom {G : Hp} : ∀ {qs : List Addr} {dss : List (List D)}, LsOk K G H qs dss → ∀ q, q ∈ qs → ∃ xs, H q = some (.lst xs)
  | [], [], _, q, hq => by cases hq
  | [], _ :: _, h, _, _ => h.elim
  | _ :: _, [], h, _, _ => h.elim
  | a :: qs, ds :: dss, h, q, hq => by
    obtain ⟨⟨xs, h1, _⟩, h2⟩ := h
    rcases List.mem_cons.mp hq with z | z
    · rw [z]
      exact ⟨xs, h1⟩
    · exact LsOk.dom h2 q z
theorem LsOk.get {G : Hp} : ∀ {qs : List Addr} {dss : List (List D)} {k : Nat} {ds : List D}, LsOk K G H qs dss → dss[k]? = some ds → ∃ q xs, qs[k]? = some q ∧ H q = some (.lst xs) ∧ DqA K G xs ds
  | [], [], _, _, _, e => by simp at e
  | [], _ :: _, _, _, h, _ => h.elim
  | _ :: _, [], _, _, h, _ => h.elim
  | a :: qs, d :: dss, k, ds, h, e => by
    obtain ⟨⟨xs, h1, h2⟩, h3⟩ := h
    cases k with
    | zero =>
      simp at e
      subst e
      exact ⟨a, xs, rfl, h1, h2⟩
    | succ k =>
      obtain ⟨q, ys, g1, g2, g3⟩ := LsOk.get h3 (k := k) (by simpa using e)
      exact ⟨q, ys, by simpa using g1, g2, g3⟩
theorem LsOk.set {G : Hp} {q : Addr} {ys : List V} {es : List D} (hy : DqA K G ys es) : ∀ {qs : List Addr} {dss : List (List D)} {k : Nat}, LsOk K G H qs dss → qs[k]? = some q → qs.Nodup → LsOk K G (upd H q (.lst ys)) qs (dss.set k es)
  | [], [], _, _, e, _ => by simp at e
  | [], _ :: _, _, h, _, _ => h.elim
  | _ :: _, [], _, h, _, _ => h.elim
  | a :: qs, d :: dss, k, h, e, nd => by
    obtain ⟨⟨xs, h1, h2⟩, h3⟩ := h
    obtain ⟨n1, n2⟩ := List.nodup_cons.mp nd
    cases k with
    | zero =>
      simp at e
      subst e
      exact ⟨⟨ys, upd_same, hy⟩, LsOk.mono (Same.refl _) (fun b hb => upd_ne (fun z => n1 (z ▸ hb))) h3⟩
    | succ k =>
      have e' : qs[k]? = some q := by simpa using e
      have ne : a ≠ q := fun z => n1 (z ▸ List.mem_of_getElem? e')
      exact ⟨⟨xs, by rw [upd_ne ne]; exact h1, h2⟩, LsOk.set hy h3 e' n2⟩
theorem sn_nil : SndN K tNil fNilN := by
  intro B O I σ H env dss env' S e Q q
  cases e
  exact q [] H ⟨List.nodup_nil, (fun q hq => nomatch hq), by rw [mi_nil]; exact S, trivial⟩
theorem sn_cons {t : TA} {fr : NF} (h1 : Snd K te fe) (h2 : SndN K t fr) : SndN K (tCons te t) (fConsN fe fr) := by
  intro B O I σ H env dss env' S e Q q
  obtain ⟨⟨r1, env1⟩, e1, e⟩ := bnd e
  cases r1 with
  | new ds =>
    obtain ⟨⟨r, env2⟩, e2, e⟩ := bnd e
    cases e
    refine h1 B O I σ H env _ _ S e1 _ fun v H1 P1 => ?_
    obtain ⟨p, xs, rfl, hp, hB, hO, S1, hx⟩ := P1
    have S2 : Sta K (upd B p (.lst xs)) (p :: O) I σ H1 env1 := S1.show hp
    have kp : keepH σ env1 H1 p = some (.lst xs) := S2.not_own upd_same
    refine h2 _ (p :: O) I σ H1 env1 r _ S2.strong e2 _ fun qs H2 F => ?_
    have hp2 : mi H2 qs p = some (.lst xs) := F.sta.base _ _ kp
    obtain ⟨np, hp3⟩ := mi_some hp2
    have S3 : Sta K (upd B p (.lst xs)) (p :: O) I σ (mi H2 qs) _ := F.sta.weak S2.base_keep
    have S4 := S3.hide hO hB
    have em : mi (mi H2 qs) [p] = mi H2 (p :: qs) := by
      rw [mi_cat]
      exact mi_ext fun a => by simp [or_comm]
    have e3 : mi H2 (qs ++ (p :: O)) = mi H2 ((p :: qs) ++ O) := mi_ext fun a => by
      simp only [List.mem_append, List.mem_cons]
      constructor
      · rintro (z | z | z)
        · exact .inl (.inr z)
        · exact .inl (.inl z)
        · exact .inr z
      · rintro ((z | z) | z)
        · exact .inr (.inl z)
        · exact .inl z
        · exact .inr (.inr z)
    show Q (V.ref p :: qs.map V.ref) H2
    refine q (p :: qs) H2 ⟨List.nodup_cons.mpr ⟨np, F.nd⟩, fun a ha => ?_, by rw [← em]; exact S4, ⟨xs, hp3, DqA.mono (fun a o ha => ?_) _ _ hx⟩, ?_⟩
    · rcases List.mem_cons.mp ha with z | z
      · rw [z]
        exact ⟨hB, hO⟩
      · obtain ⟨g1, g2⟩ := F.fre a z
        have ne : a ≠ p := fun y => g2 (by rw [y]; exact List.mem_cons_self)
        have := S2.base_keep.free g1
        rw [upd_ne ne] at this
        exact ⟨this, fun y => g2 (List.mem_cons_of_mem _ y)⟩
    · rw [mi_cat] at ha
      obtain ⟨y1, y2⟩ := mi_some ha
      have y3 : a ∉ p :: O := fun z => y1 (by
        rcases List.mem_cons.mp z with w | w
        · rw [w]; exact List.mem_append_left _ List.mem_cons_self
        · exact List.mem_append_right _ w)
      have y4 : keepH σ env1 H1 a = some o := by
        rw [keepH_not (fun z => y3 (S2.owns_in z))]
        exact y2
      obtain ⟨y5, y6⟩ := mi_some (F.sta.base _ _ y4)
      refine mi_of (fun z => ?_) y6
      rcases List.mem_append.mp z with w | w
      · rcases List.mem_cons.mp w with w | w
        · exact y3 (by rw [w]; exact List.mem_cons_self)
        · exact y5 w
      · exact y3 (List.mem_cons_of_mem _ w)
    · have := F.ls
      rw [e3] at this
      exact this
  | _ => cases e
/-- a name gets a new list of new lists -/
theorem Sta.newL {i : Nat} {L : Addr} {qs : List Addr} {dss : List (List D)} (F : Fresh K B O I σ H env qs dss) (hL : H L = none) (e : putS i (.nw (.ls2 dss)) env = some env') :
    Sta K B (L :: (qs ++ O)) I (σ.set i (some (.ref L))) (upd H L (.lst (qs.map V.ref))) env' := by
  obtain ⟨h1, h2, rfl⟩ := putS_of e
  have S := F.sta
  have hs : i < σ.length := by rw [S.len]; exact h2
  have Lq : L ∉ qs := fun z => by
    obtain ⟨xs, y⟩ := F.ls.dom L z
    rw [hL] at y
    cases y
  have LO : L ∉ O := fun z => by
    obtain ⟨o, y⟩ := S.dom L z
    rw [(mi_some y).2] at hL
    cases hL
  have up : Same (mi H qs) (upd H L (.lst (qs.map V.ref))) := fun a o ha => by
    obtain ⟨y1, y2⟩ := mi_some ha
    rw [upd_ne (fun z => by rw [z, hL] at y2; cases y2)]
    exact y2
  have sm : Same (mi (mi H qs) O) (mi (upd H L (.lst (qs.map V.ref))) (L :: (qs ++ O))) := fun a o ha => by
    obtain ⟨y1, y2⟩ := mi_some ha
    obtain ⟨y3, y4⟩ := mi_some y2
    refine mi_of (fun z => ?_) (up a o y2)
    rcases List.mem_cons.mp z with w | w
    · rw [w, hL] at y4
      cases y4
    · exact (List.mem_append.mp w).elim y3 y1
  have get : ∀ j, j ≠ i → (env.set i (SV.nw (.ls2 dss)))[j]? = env[j]? := fun j c => List.getElem?_set_ne (Ne.symm c)
  have gets : ∀ j, j ≠ i → (σ.set i (some (V.ref L)))[j]? = σ[j]? := fun j c => List.getElem?_set_ne (Ne.symm c)
  have ne : ∀ j ds, OwnAt (env.set i (SV.nw (.ls2 dss))) j ds → j ≠ i ∧ OwnAt env j ds := fun j ds z => by
    by_cases c : j = i
    · subst c
      unfold OwnAt at z
      rw [List.getElem?_set_self h2] at z
      rcases z with z | z <;> cases z
    · exact ⟨c, (own_set c).mp z⟩
  have mem : ∀ a, a ∈ O → a ∈ L :: (qs ++ O) := fun a z => List.mem_cons_of_mem _ (List.mem_append_right _ z)
  have ads : adsOf (upd H L (.lst (qs.map V.ref))) L (.ls2 dss) = L :: qs := by
    unfold adsOf
    rw [upd_same]
    show L :: (qs.map V.ref).filterMap refV = _
    rw [refV_map]
  have out : ∀ a, a ∈ L :: qs → a ∉ O := fun a ha => by
    rcases List.mem_cons.mp ha with z | z
    · rw [z]; exact LO
    · exact (F.fre a z).2
  have bL : B L = none := (S.base.trans mi_same).free hL
  refine ⟨by simp [S.len], fun j d hj => ?_, fun j ds hj => ?_, fun j l ds es q hj hl e1 e2 => ?_, S.base.trans up, fun q hq => ?_, fun j q hj => ?_, fun j w hj => ?_, fun q xs hq => ?_⟩
  · by_cases c : j = i
    · subst c
      rw [List.getElem?_set_self h2] at hj
      cases hj
    · rw [get j c] at hj
      rw [gets j c]
      obtain ⟨w, k1, k2⟩ := S.fz j d hj
      exact ⟨w, k1, Dq.mono sm _ _ k2⟩
  · obtain ⟨c, z⟩ := ne j ds hj
    rw [gets j c]
    obtain ⟨q, xs, k1, k2, k3, k4, k5⟩ := S.ow j ds z
    exact ⟨q, xs, k1, mem q k2, up _ _ k3, DqA.mono sm _ _ k4, k5⟩
  · obtain ⟨c, z⟩ := ne j ds hj
    obtain ⟨c', z'⟩ := ne l es hl
    rw [gets j c] at e1
    rw [gets l c'] at e2
    exact S.sep j l ds es q z z' e1 e2
  · rcases List.mem_cons.mp hq with rfl | hq
    · exact ⟨_, upd_same⟩
    · rcases List.mem_append.mp hq with z | z
      · obtain ⟨xs, y⟩ := F.ls.dom q z
        have nqL : q ≠ L := fun w => Lq (by rw [← w]; exact z)
        exact ⟨_, by rw [upd_ne nqL]; exact y⟩
      · obtain ⟨o, y⟩ := S.dom q z
        exact ⟨o, up _ _ y⟩
  · obtain ⟨k1, ds, k2⟩ := S.pin j q hj
    have c : j ≠ i := fun z => by
      subst z
      rw [isIo_of k2] at h1
      cases h1
    rw [get j c, gets j c]
    exact ⟨k1, ds, k2⟩
  · have old : ∀ {l : Nat} {w : OV}, env[l]? = some (.nw w) → ∀ {q : Addr}, σ[l]? = some (some (.ref q)) → (∀ a, a ∈ adsOf (mi H qs) q w → a ∈ O) ∧ adsOf (upd H L (.lst (qs.map V.ref))) q w = adsOf (mi H qs) q w := fun {l w} hl {q} hq => by
      obtain ⟨q', b1, _, _, b4, _⟩ := S.nw l w hl
      rw [hq] at b1
      cases b1
      have qO := (b4 q adsOf_self).1
      refine ⟨fun a ha => (b4 a ha).1, adsOf_eq ?_⟩
      obtain ⟨o, y⟩ := S.dom q qO
      rw [y, up _ _ y]
    by_cases c : j = i
    · subst c
      rw [List.getElem?_set_self h2] at hj
      cases hj
      refine ⟨L, List.getElem?_set_self hs, ⟨qs, upd_same, LsOk.mono (fun a o ha => ?_) (fun q hq => upd_ne (fun w => Lq (w ▸ hq))) F.ls⟩, by rw [ads]; exact List.nodup_cons.mpr ⟨Lq, F.nd⟩, fun a ha => ?_, fun l ds a hl e z => ?_, fun l w' q hl hw e a ha z => ?_⟩
      · refine sm a o ?_
        rw [mi_cat]
        exact ha
      · rw [ads] at ha
        rcases List.mem_cons.mp ha with z | z
        · rw [z]
          exact ⟨List.mem_cons_self, bL⟩
        · exact ⟨List.mem_cons_of_mem _ (List.mem_append_left _ z), (F.fre a z).1⟩
      · rw [ads] at z
        obtain ⟨c, y⟩ := ne l ds hl
        rw [gets l c] at e
        obtain ⟨q, xs, k1, k2, _⟩ := S.ow l ds y
        rw [e] at k1
        cases k1
        exact out a z k2
      · rw [ads] at ha
        rw [get l hl] at hw
        rw [gets l hl] at e
        obtain ⟨y1, y2⟩ := old hw e
        rw [y2] at z
        exact out a ha (y1 a z)
    · rw [get j c] at hj
      rw [gets j c]
      obtain ⟨q, b1, b2, b3, b4, b5, b6⟩ := S.nw j w hj
      obtain ⟨y1, y2⟩ := old hj b1
      refine ⟨q, b1, b2.mono sm fun a ha => ?_, by rw [y2]; exact b3, fun a ha => ?_, fun l ds a hl e => ?_, fun l w' r hl hw e a ha => ?_⟩
      · obtain ⟨o, y⟩ := S.dom a (y1 a ha)
        rw [y, up _ _ y]
      · rw [y2] at ha
        exact ⟨mem a (b4 a ha).1, (b4 a ha).2⟩
      · obtain ⟨c', y⟩ := ne l ds hl
        rw [gets l c'] at e
        rw [y2]
        exact b5 l ds a y e
      · rw [y2] at ha
        by_cases c' : l = i
        · subst c'
          rw [List.getElem?_set_self h2] at hw
          cases hw
          rw [List.getElem?_set_self hs] at e
          cases e
          rw [ads]
          exact fun z => out a z (y1 a ha)
        · rw [get l c'] at hw
          rw [gets l c'] at e
          rw [(old hw e).2]
          exact b6 l w' r hl hw e a ha
  · rcases List.mem_cons.mp hq with rfl | hq
    · rw [upd_same]
      exact fun z => by cases z
    · rcases List.mem_append.mp hq with z | z
      · obtain ⟨ys, y⟩ := F.ls.dom q z
        have nqL : q ≠ L := fun w => Lq (by rw [← w]; exact z)
        rw [upd_ne nqL, y]
        exact fun z => by cases z
      · exact S.ntS z (fun o y => up _ _ y) xs
def fLs2 (i : Nat) (fn : NF) : SFn := fun env => (fn env).bind fun a => if a.1.length ≤ 1000 then (putS i (.nw (.ls2 a.1)) a.2).bind fun e => some (.nx e) else none
theorem LsOk.len {G : Hp} : ∀ {qs : List Addr} {dss : List (List D)}, LsOk K G H qs dss → qs.length = dss.length
  | [], [], _ => rfl
  | [], _ :: _, h => h.elim
  | _ :: _, [], h => h.elim
  | _ :: _, _ :: _, h => by rw [List.length_cons, List.length_cons, LsOk.len h.2]
theorem ss_ls2 {i : Nat} {t : TA} {fn : NF} (h : SndN K t fn) : SndS K W (tAsg (tLst t) (gName i)) (fLs2 i fn) := by
  intro B O I σ H env o S e D k
  obtain ⟨⟨dss, env1⟩, e1, e⟩ := bnd e
  dsimp only at e
  split at e
  · rename_i hl
    obtain ⟨env2, e2, e⟩ := bnd e
    cases e
    refine h B O I σ H env dss env1 S e1 _ fun qs H1 F => ?_
    refine ⟨by rw [List.length_map, F.ls.len]; exact line_of (by omega), fun L hL => ?_⟩
    refine k (L :: (qs ++ O)) _ _ ⟨fun a z _ => List.mem_cons_of_mem _ (List.mem_append_right _ z), fun a z => ?_⟩ (Sta.newL F hL e2)
    rcases List.mem_cons.mp z with w | w
    · rw [w]
      exact .inr ((F.sta.base.trans mi_same).free hL)
    · rcases List.mem_append.mp w with w | w
      · exact .inr (F.fre a w).1
      · exact .inl w
  · cases e
/-! x[k].m() -/
def fO2M0 (i k : Nat) (h : List D → Option (List D)) : EF := fun env => match env[i]? with
  | some (.nw (.ls2 dss)) => (dss[k]?).bind fun ds => (h ds).bind fun es => some (.val .non, env.set i (.nw (.ls2 (dss.set k es))))
  | _ => none
theorem atI_n {α : Type} {xs : List α} {k : Nat} {x : α} (h : xs[k]? = some x) : L2.atI xs (k : Int) = some x := by
  have hk := (List.getElem?_eq_some_iff.mp h).1
  unfold L2.atI L2.ixN
  rw [if_pos (by omega), if_pos (by omega)]
  simpa using h
theorem Sta.up2 (S : Sta K B O I σ H env) {i k : Nat} {dss : List (List D)} {ds es : List D} (h : env[i]? = some (.nw (.ls2 dss))) (hk : dss[k]? = some ds) : ∃ (p : Addr) (qs : List Addr) (q : Addr) (xs : List V), σ[i]? = some (some (.ref p)) ∧ H p = some (.lst (qs.map V.ref)) ∧ qs[k]? = some q ∧ H q = some (.lst xs) ∧ DqA K (mi H O) xs ds ∧
    ∀ ys, DqA K (mi H O) ys es → Sta K B O I σ (upd H q (.lst ys)) (env.set i (.nw (.ls2 (dss.set k es)))) := by
  obtain ⟨p, a1, ⟨qs, a2, ls⟩, a3, a4, a5, a6⟩ := S.nw i _ h
  obtain ⟨q, xs, g1, g2, g3⟩ := ls.get hk
  refine ⟨p, qs, q, xs, a1, a2, g1, g2, g3, fun ys hy => ?_⟩
  have qm := List.mem_of_getElem? g1
  have ads : adsOf H p (.ls2 dss) = p :: qs := by
    unfold adsOf
    rw [a2]
    show p :: (qs.map V.ref).filterMap refV = _
    rw [refV_map]
  rw [ads] at a3 a4 a5 a6
  obtain ⟨n1, n2⟩ := List.nodup_cons.mp a3
  have qO := a4 q (List.mem_cons_of_mem _ qm)
  have pq : p ≠ q := fun z => n1 (z ▸ qm)
  have hi : i < env.length := (List.getElem?_eq_some_iff.mp h).1
  have hm : mi (upd H q (.lst ys)) O = mi H O := mi_upd_in qO.1
  have ads' : ∀ d, adsOf (upd H q (.lst ys)) p (.ls2 d) = p :: qs := fun d => by
    unfold adsOf
    rw [upd_ne pq, a2]
    show p :: (qs.map V.ref).filterMap refV = _
    rw [refV_map]
  have get : ∀ j, j ≠ i → (env.set i (SV.nw (.ls2 (dss.set k es))))[j]? = env[j]? := fun j c => List.getElem?_set_ne (Ne.symm c)
  have ne : ∀ j gs, OwnAt (env.set i (SV.nw (.ls2 (dss.set k es)))) j gs → j ≠ i ∧ OwnAt env j gs := fun j gs z => by
    by_cases c : j = i
    · subst c
      unfold OwnAt at z
      rw [List.getElem?_set_self hi] at z
      rcases z with z | z <;> cases z
    · exact ⟨c, (own_set c).mp z⟩
  refine ⟨by simp [S.len], fun j d hj => ?_, fun j gs hj => ?_, fun j l gs hs r hj hl e1 e2 => S.sep j l gs hs r (ne j gs hj).2 (ne l hs hl).2 e1 e2, fun a o ha => ?_, fun r hr => ?_, fun j r hj => ?_, fun j w hj => ?_, fun r zs hr => ?_⟩
  · rw [hm]
    by_cases c : j = i
    · subst c
      rw [List.getElem?_set_self hi] at hj
      cases hj
    · rw [get j c] at hj
      exact S.fz j d hj
  · rw [hm]
    obtain ⟨c, z⟩ := ne j gs hj
    obtain ⟨r, zs, k1, k2, k3, k4, k5⟩ := S.ow j gs z
    refine ⟨r, zs, k1, k2, ?_, k4, k5⟩
    rw [upd_ne (fun y => a5 j gs r z k1 (by rw [y]; exact List.mem_cons_of_mem _ qm))]
    exact k3
  · rw [upd_ne (fun y => by rw [y, qO.2] at ha; cases ha)]
    exact S.base a o ha
  · by_cases c : r = q
    · subst c
      exact ⟨_, upd_same⟩
    · rw [upd_ne c]
      exact S.dom r hr
  · obtain ⟨k1, gs, k2⟩ := S.pin j r hj
    have c : j ≠ i := fun z => by
      subst z
      rw [h] at k2
      cases k2
    exact ⟨k1, gs, by rw [get j c]; exact k2⟩
  · by_cases c : j = i
    · subst c
      rw [List.getElem?_set_self hi] at hj
      cases hj
      refine ⟨p, a1, ⟨qs, by rw [upd_ne pq]; exact a2, by rw [hm]; exact LsOk.set hy ls g1 n2⟩, by rw [ads']; exact a3, by rw [ads']; exact a4, fun l gs a hl e => ?_, fun l w' r hl hw e a ha => ?_⟩
      · rw [ads']
        exact a5 l gs a (ne l gs hl).2 e
      · rw [ads'] at ha
        rw [get l hl] at hw
        have r0 : r ≠ q := fun z => by
          subst z
          exact a6 l w' r hl hw e r (List.mem_cons_of_mem _ qm) adsOf_self
        rw [adsOf_eq (upd_ne r0)]
        exact a6 l w' r hl hw e a ha
    · rw [get j c] at hj
      obtain ⟨r, b1, b2, b3, b4, b5, b6⟩ := S.nw j w hj
      have nq : ∀ a, a ∈ adsOf H r w → a ≠ q := fun a ha z => by
        subst z
        refine b6 i _ p (Ne.symm c) h a1 a ha ?_
        rw [ads]
        exact List.mem_cons_of_mem _ qm
      have e0 : adsOf (upd H q (.lst ys)) r w = adsOf H r w := adsOf_eq (upd_ne (nq r adsOf_self))
      refine ⟨r, b1, b2.mono (by rw [hm]; exact Same.refl _) fun a ha => upd_ne (nq a ha), by rw [e0]; exact b3, by rw [e0]; exact b4, fun l gs a hl e => ?_, fun l w' t hl hw e a ha => ?_⟩
      · rw [e0]
        exact b5 l gs a (ne l gs hl).2 e
      · rw [e0] at ha
        by_cases c' : l = i
        · subst c'
          rw [List.getElem?_set_self hi] at hw
          cases hw
          rw [a1] at e
          cases e
          rw [ads']
          have := b6 l _ p hl h a1 a ha
          rw [ads] at this
          exact this
        · rw [get l c'] at hw
          have t0 : t ≠ q := fun z => by
            obtain ⟨t', d1, _, _, d4, d5, d6⟩ := S.nw l w' hw
            rw [e] at d1
            cases d1
            subst z
            refine d6 i _ p (Ne.symm c') h a1 t adsOf_self ?_
            rw [ads]
            exact List.mem_cons_of_mem _ qm
          rw [adsOf_eq (upd_ne t0)]
          exact b6 l w' t hl hw e a ha
  · by_cases c : r = q
    · subst c
      rw [upd_same]
      exact fun z => by cases z
    · rw [upd_ne c]
      exact S.nt r zs hr
theorem snd_o2m0 {i k : Nat} {r : V → List V → Hp → VK → Prop} {h : List D → Option (List D)}
    (hr : ∀ (H : Hp) (O : List Addr) (p : Addr) (xs : List V) (ds es : List D), H p = some (.lst xs) → DqA K (mi H O) xs ds → h ds = some es →
      ∀ Q : VK, (∀ ys, DqA K (mi H O) ys es → Q .non (upd H p (.lst ys))) → r (.ref p) [] H Q) : Snd K (tBM0 K "list" r (tOp (rIx K) (tVar i) (tC (.int (k : Nat))))) (fO2M0 i k h) := by
  intro B O I σ H env rv env' S e Q q
  unfold fO2M0 at e
  split at e
  · rename_i dss hi
    obtain ⟨ds, e1, e⟩ := bnd e
    obtain ⟨es, e2, e⟩ := bnd e
    cases e
    obtain ⟨p, qs, a, xs, s1, hp, g1, g2, g3, up⟩ := S.up2 (es := es) hi e1
    have ea : L2.atI (qs.map V.ref) (k : Int) = some (V.ref a) := atI_n (by rw [List.getElem?_map, g1]; rfl)
    exact ⟨_, s1, .inl ⟨p, _, _, _, rfl, rfl, .inl (.inl hp), ea, tyL g2, hr H O a xs ds es g2 g3 e2 _ fun ys hy => q _ _ ⟨up ys hy, .non⟩⟩⟩
  · cases e
theorem snd_reverse2 {i k : Nat} : Snd K (tBM0 K "list" rReverse (tOp (rIx K) (tVar i) (tC (.int (k : Nat))))) (fO2M0 i k fun ds => some ds.reverse) :=
  snd_o2m0 fun H O p xs ds es hp hx eh Q q => by
    cases eh
    exact ⟨p, xs, rfl, rfl, hp, q _ hx.reverse⟩
theorem snd_clear2 {i k : Nat} : Snd K (tBM0 K "list" rClear (tOp (rIx K) (tVar i) (tC (.int (k : Nat))))) (fO2M0 i k fun _ => some []) :=
  snd_o2m0 fun H O p xs ds es hp hx eh Q q => by
    cases eh
    exact ⟨p, xs, rfl, rfl, hp, q _ .nil⟩
/-! a list of own lists, read while nothing changes it -/
def notNw : SV → Bool
  | .nw _ => false
  | _ => true
def fLend2 (i : Nat) (f : EF) : EF := fun env => match env[i]? with
  | some (.nw (.ls2 dss)) => if (env.set i .no).all notNw then (f (env.set i (.fz (.lst (dss.map D.lst))))).bind fun a => if a.2.all ownNoL && noR a.1 then some (a.1, (List.zipWith mergeS env a.2).set i (.nw (.ls2 dss))) else none else none
  | _ => none
theorem ls_dqa {G : Hp} (hG : ∀ q, q ∉ O → mi H O q = H q) : ∀ {qs : List Addr} {dss : List (List D)}, LsOk K (mi H O) H qs dss → (∀ q, q ∈ qs → q ∉ O) → DqA K (mi H O) (qs.map V.ref) (dss.map D.lst)
  | [], [], _, _ => .nil
  | [], _ :: _, h, _ => h.elim
  | _ :: _, [], h, _ => h.elim
  | q :: qs, ds :: dss, h, hq => by
    obtain ⟨⟨xs, h1, h2⟩, h3⟩ := h
    exact .cons (.lst (mi_of (hq q List.mem_cons_self) h1) h2) (ls_dqa (G := G) hG h3 fun a ha => hq a (List.mem_cons_of_mem _ ha))
theorem snd_lend2 {i : Nat} {t : TE} {f : EF} (h : Snd K t f) : Snd K t (fLend2 i f) := by
  intro B O I σ H env rv env' S e Q q
  unfold fLend2 at e
  split at e
  · rename_i dss hi
    split at e
    · rename_i hnw
      obtain ⟨⟨r, e1⟩, ef, e⟩ := bnd e
      dsimp only at e
      split at e
      · rename_i hc
        rw [Bool.and_eq_true] at hc
        cases e
        obtain ⟨p, hp1, ⟨qs, hp3, ls⟩, nd, ao, so, _⟩ := S.nw i _ hi
        have ads : adsOf H p (.ls2 dss) = p :: qs := by
          unfold adsOf
          rw [hp3]
          show p :: (qs.map V.ref).filterMap refV = _
          rw [refV_map]
        rw [ads] at nd ao so
        have li : i < env.length := (List.getElem?_eq_some_iff.mp hi).1
        have get1 : ∀ j, j ≠ i → (env.set i (.fz (.lst (dss.map D.lst))))[j]? = env[j]? := fun j hj => List.getElem?_set_ne (fun z => hj z.symm)
        have geti : (env.set i (SV.fz (.lst (dss.map D.lst))))[i]? = some (.fz (.lst (dss.map D.lst))) := List.getElem?_set_self li
        have non : ∀ j w, j ≠ i → env[j]? ≠ some (SV.nw w) := fun j w c z => by
          have m : SV.nw w ∈ env.set i .no := List.mem_of_getElem? (i := j) (by rw [List.getElem?_set_ne (Ne.symm c)]; exact z)
          have := List.all_eq_true.mp hnw _ m
          cases this
        have own1 : ∀ j es, OwnAt (env.set i (.fz (.lst (dss.map D.lst)))) j es → j ≠ i ∧ OwnAt env j es := fun j es ho => by
          by_cases c : j = i
          · subst c
            unfold OwnAt at ho
            rw [geti] at ho
            rcases ho with z | z <;> cases z
          · unfold OwnAt at ho ⊢
            rw [get1 j c] at ho
            exact ⟨c, ho⟩
        let O1 := O.filter fun a => decide (a ∉ p :: qs)
        have inO1 : ∀ a, a ∈ O1 ↔ a ∈ O ∧ a ∉ p :: qs := fun a => by
          show a ∈ O.filter _ ↔ _
          rw [List.mem_filter, decide_eq_true_eq]
        have up : Same (mi H O) (mi H O1) := mi_sub fun a ha => ((inO1 a).mp ha).1
        have S1 : Sta K B O1 I σ H (env.set i (.fz (.lst (dss.map D.lst)))) := by
          refine ⟨by rw [List.length_set]; exact S.len, fun j d hj => ?_, fun j es ho => ?_, fun j k es fs a ho1 ho2 => ?_, S.base, fun a ha => S.dom a ((inO1 a).mp ha).1, fun j a hj => ?_, NwOk.none fun j w z => ?_, fun a xs ha => S.nt a xs ((inO1 a).mp ha).1⟩
          · by_cases c : j = i
            · subst c
              rw [geti] at hj
              cases hj
              refine ⟨_, hp1, .lst (mi_of (fun z => ((inO1 p).mp z).2 List.mem_cons_self) hp3) ?_⟩
              exact ls_dqa (G := H) (fun _ z => mi_out z) (LsOk.mono up (fun _ _ => rfl) ls) fun a ha z => ((inO1 a).mp z).2 (List.mem_cons_of_mem _ ha)
            · rw [get1 j c] at hj
              obtain ⟨v, h1, h2⟩ := S.fz j d hj
              exact ⟨v, h1, Dq.mono up _ _ h2⟩
          · obtain ⟨c, ho⟩ := own1 j es ho
            obtain ⟨a, ys, k1, k2, k3, k4, k5⟩ := S.ow j es ho
            exact ⟨a, ys, k1, (inO1 a).mpr ⟨k2, so j es a ho k1⟩, k3, DqA.mono up _ _ k4, k5⟩
          · exact S.sep j k es fs a (own1 j es ho1).2 (own1 k fs ho2).2
          · obtain ⟨y1, es, y2⟩ := S.pin j a hj
            refine ⟨y1, es, ?_⟩
            rw [get1 j (fun z => ?_)]
            · exact y2
            · subst z
              rw [hi] at y2
              cases y2
          · by_cases c : j = i
            · subst c
              rw [geti] at z
              cases z
            · rw [get1 j c] at z
              exact non j w c z
        have kp : ∀ a, a ∈ p :: qs → ∀ o, H a = some o → keepH σ (env.set i (.fz (.lst (dss.map D.lst)))) H a = some o := fun a ha o ho => by
          rw [keepH_not (fun z => ((inO1 a).mp (S1.owns_in z)).2 ha)]
          exact ho
        have there : ∀ a, a ∈ p :: qs → ∃ xs, H a = some (.lst xs) := fun a ha => by
          rcases List.mem_cons.mp ha with z | z
          · rw [z]; exact ⟨_, hp3⟩
          · exact ls.dom a z
        have back : ∀ H', Sta K (keepH σ (env.set i (.fz (.lst (dss.map D.lst)))) H) O1 I σ H' e1 → Sta K B O I σ H' ((List.zipWith mergeS env e1).set i (.nw (.ls2 dss))) ∧ ∀ a, a ∈ p :: qs → ∃ xs, H' a = some (.lst xs) := fun H' S2 => by
          have hA : ∀ a, a ∈ p :: qs → H' a = H a := fun a ha => by
            obtain ⟨xs, hx⟩ := there a ha
            rw [hx]
            exact S2.base _ _ (kp a ha _ hx)
          have stay : Same (mi H O) (mi H' O) := fun a o ha => by
            obtain ⟨y1, y2⟩ := mi_some ha
            refine mi_of y1 (S2.base a o ?_)
            rw [keepH_not (fun z => y1 ((inO1 a).mp (S1.owns_in z)).1)]
            exact y2
          have l1 : e1.length = env.length := by rw [← S2.len, S.len]
          have lz : (List.zipWith mergeS env e1).length = env.length := by rw [List.length_zipWith, l1, Nat.min_self]
          have hget : ∀ j, j ≠ i → ∀ s, ((List.zipWith mergeS env e1).set i (.nw (.ls2 dss)))[j]? = some s → ∃ a b, env[j]? = some a ∧ e1[j]? = some b ∧ s = mergeS a b := fun j hj s hs => by
            rw [List.getElem?_set_ne (fun z => hj z.symm), List.getElem?_zipWith] at hs
            cases ha : env[j]? with
            | none => rw [ha] at hs; cases hs
            | some a =>
              cases hb : e1[j]? with
              | none => rw [ha, hb] at hs; cases hs
              | some b =>
                rw [ha, hb] at hs
                cases hs
                exact ⟨a, b, rfl, rfl, rfl⟩
          have hgi : ((List.zipWith mergeS env e1).set i (SV.nw (.ls2 dss)))[i]? = some (.nw (.ls2 dss)) := List.getElem?_set_self (by rw [lz]; exact li)
          have own2 : ∀ j es, OwnAt ((List.zipWith mergeS env e1).set i (.nw (.ls2 dss))) j es → j ≠ i ∧ OwnAt e1 j es ∧ (∃ fs, OwnAt env j fs) := fun j es ho => by
            by_cases c : j = i
            · subst c
              unfold OwnAt at ho
              rw [hgi] at ho
              rcases ho with z | z <;> cases z
            · refine ⟨c, ?_⟩
              rcases ho with z | z
              · obtain ⟨a, b, y1, y2, y3⟩ := hget j c _ z
                rcases merge_own (.inl y3.symm) with ⟨w1, ⟨x, w2⟩, _⟩ | ⟨w1, ⟨x, w2⟩, w3⟩
                · exact ⟨.inl (by rw [y2, w1]), x, .inl (by rw [y1, w2])⟩
                · rw [w3] at y3
                  cases y3
              · obtain ⟨a, b, y1, y2, y3⟩ := hget j c _ z
                rcases merge_own (.inr y3.symm) with ⟨w1, ⟨x, w2⟩, w3⟩ | ⟨w1, ⟨x, w2⟩, w3⟩
                · rw [w3] at y3
                  cases y3
                · exact ⟨.inr (by rw [y2, w1]), x, .inr (by rw [y1, w2])⟩
          have adsH : adsOf H' p (.ls2 dss) = p :: qs := by
            rw [adsOf_eq (hA p List.mem_cons_self)]
            exact ads
          refine ⟨⟨by rw [List.length_set, lz]; exact S.len, fun j d hj => ?_, fun j es ho => ?_, fun j k es fs a ho1 ho2 h1 h2 => ?_, fun a o ha => ?_, fun a ha => ?_, fun j a hj => ?_, fun j w z => ?_, fun a xs ha => ?_⟩, fun a ha => by rw [hA a ha]; exact there a ha⟩
          · by_cases c : j = i
            · subst c
              rw [hgi] at hj
              cases hj
            · obtain ⟨a, b, y1, y2, y3⟩ := hget j c _ hj
              rw [merge_fz y3.symm] at y1
              obtain ⟨v, k1, k2⟩ := S.fz j d y1
              exact ⟨v, k1, Dq.mono stay _ _ k2⟩
          · obtain ⟨c, ho1, _⟩ := own2 j es ho
            obtain ⟨a, ys, k1, k2, k3, k4, k5⟩ := S2.ow j es ho1
            have nl : noLs es = true := by
              have hall := List.all_eq_true.mp hc.1
              rcases ho1 with z | z
              · exact hall _ (List.mem_of_getElem? z)
              · exact hall _ (List.mem_of_getElem? z)
            refine ⟨a, ys, k1, ((inO1 a).mp k2).1, k3, DqA.less (O := O1) (fun b hb => ?_) _ _ nl k4, ?_⟩
            · by_cases w : b ∈ p :: qs
              · exact .inr (by rw [hA b w]; exact there b w)
              · exact .inl ((inO1 b).mpr ⟨hb, w⟩)
            · cases hB : B a with
              | none => rfl
              | some o =>
                have : keepH σ (env.set i (.fz (.lst (dss.map D.lst)))) H a = some o := S1.base_keep _ _ hB
                rw [k5] at this
                cases this
          · obtain ⟨_, _, f1, g1⟩ := own2 j es ho1
            obtain ⟨_, _, f2, g2⟩ := own2 k fs ho2
            exact S.sep _ _ _ _ a g1 g2 h1 h2
          · exact S2.base _ _ (S1.base_keep _ _ ha)
          · by_cases w : a ∈ p :: qs
            · obtain ⟨xs, hx⟩ := there a w
              exact ⟨_, by rw [hA a w]; exact hx⟩
            · exact S2.dom a ((inO1 a).mpr ⟨ha, w⟩)
          · obtain ⟨y1, es, y2⟩ := S.pin j a hj
            have c : j ≠ i := fun z => by
              subst z
              rw [hi] at y2
              cases y2
            obtain ⟨y3, fs, y4⟩ := S2.pin j a hj
            refine ⟨y1, fs, ?_⟩
            rw [List.getElem?_set_ne (fun z => c z.symm), List.getElem?_zipWith, y2, y4]
            rfl
          · by_cases c : j = i
            · subst c
              rw [hgi] at z
              cases z
              refine ⟨p, hp1, Real.mono stay (fun a ha => hA a (by rw [← ads]; exact ha)) ⟨qs, hp3, ls⟩, by rw [adsH]; exact nd, by rw [adsH]; exact ao, fun l gs a hl e => ?_, fun l w' r hl hw e a ha => ?_⟩
              · rw [adsH]
                obtain ⟨_, _, f1, g1⟩ := own2 l gs hl
                exact so l f1 a g1 e
              · obtain ⟨a', b', y1, y2, y3⟩ := hget l hl _ hw
                cases a' <;> cases b' <;> cases y3
                exact absurd y1 (non l _ hl)
            · obtain ⟨a, b, y1, y2, y3⟩ := hget j c _ z
              cases a <;> cases b <;> cases y3
              exact absurd y1 (non j _ c)
          · by_cases w : a ∈ p :: qs
            · obtain ⟨ys, hx⟩ := there a w
              rw [hA a w, hx]
              exact fun z => by cases z
            · exact S2.nt a xs ((inO1 a).mpr ⟨ha, w⟩)
        refine h _ O1 I σ H _ _ _ S1.strong ef _ fun v H' P => q v H' ?_
        cases rv with
        | ex n => exact False.elim P
        | slot k => cases hc.2
        | tw dsw =>
          obtain ⟨a, qw, rfl, h1, hnd, hfr, S2, hls⟩ := P
          obtain ⟨S3, hp'⟩ := back _ S2
          refine ⟨a, qw, rfl, h1, hnd, fun b hb => ?_, S3, LsOk.less (X := qw ++ O1) (fun b hb => ?_) hc.2 hls⟩
          · obtain ⟨y1, y2⟩ := hfr b hb
            have nap : b ∉ p :: qs := fun z => by
              obtain ⟨xs, hx⟩ := there b z
              rw [kp b z _ hx] at y1
              cases y1
            refine ⟨?_, fun z => y2 ((inO1 b).mpr ⟨z, nap⟩)⟩
            cases hB : B b with
            | none => rfl
            | some o =>
              have : keepH σ (env.set i (.fz (.lst (dss.map D.lst)))) H b = some o := S1.base_keep _ _ hB
              rw [y1] at this
              cases this
          · rcases List.mem_append.mp hb with w | w
            · exact .inl (List.mem_append_left _ w)
            · by_cases w2 : b ∈ p :: qs
              · obtain ⟨xs, hx⟩ := hp' b w2
                exact .inr ⟨xs, (mi_some hx).2⟩
              · exact .inl (List.mem_append_right _ ((inO1 b).mpr ⟨w, w2⟩))
        | val d =>
          obtain ⟨S2, hd⟩ := P
          obtain ⟨S3, hp'⟩ := back H' S2
          refine ⟨S3, Dq.less (O := O1) (fun b hb => ?_) _ _ hc.2 hd⟩
          by_cases w : b ∈ p :: qs
          · exact .inr (hp' b w)
          · exact .inl ((inO1 b).mpr ⟨hb, w⟩)
        | new es =>
          obtain ⟨a, ys, rfl, h1, h2, h3, S2, h4⟩ := P
          obtain ⟨S3, hp'⟩ := back _ S2
          have nap : a ∉ p :: qs := fun z => by
            obtain ⟨xs, hx⟩ := there a z
            rw [kp a z _ hx] at h2
            cases h2
          have hB : B a = none := by
            cases hB : B a with
            | none => rfl
            | some o =>
              have : keepH σ (env.set i (.fz (.lst (dss.map D.lst)))) H a = some o := S1.base_keep _ _ hB
              rw [h2] at this
              cases this
          refine ⟨a, ys, rfl, h1, hB, fun z => h3 ((inO1 a).mpr ⟨z, nap⟩), S3, DqA.less (O := O1) (fun b hb => ?_) _ _ hc.2 h4⟩
          by_cases w : b ∈ p :: qs
          · exact .inr (hp' b w)
          · exact .inl ((inO1 b).mpr ⟨hb, w⟩)
      · cases e
    · cases e
  · cases e
end
end Dv

/-! # wishes: dicts -/
namespace Dv
open PySem L2
theorem hu1 {n c : Nat} (h : n + 64 < c) : n + 1 < c := by omega
section
variable {P : RV × Env → Prop} {PO : Out → Prop} {env e : Env} {f fa fb fk fe fx : EF} {fr : AF} {rs : List RV} {r : RV} {i : Nat} {d kd x : D} {s : SV} {kvs : List (List Int × D)} {k : List Int}
theorem dct_0 : dctAt (.nw (.dct kvs) :: env) 0 = some kvs := rfl
theorem dct_s : dctAt (s :: env) (i + 1) = dctAt env i := by
  unfold dctAt
  rw [List.getElem?_cons_succ]
theorem free_nw {w : OV} : freeP (.nw w) = true := rfl
theorem keep_nw {w : OV} : keepFz (some (.nw w)) = .no := rfl
theorem w_dnew : Ok (fDNew i env) PO ↔ Ok (putS i (.nw (.dct [])) env) (KNx PO) := ok_bind_iff fun e => ok_some
def QTupN (e : Env) (P : RV × Env → Prop) : List D → Prop := fun ds => ds.length ≤ 10000000 ∧ P (.val (.nt ds), e)
def KTupN (P : RV × Env → Prop) : List RV × Env → Prop := fun a => DV (allVal a.1) (QTupN a.2 P)
theorem q_tupN {ds : List D} : QTupN e P ds ↔ ds.length ≤ 10000000 ∧ P (.val (.nt ds), e) := Iff.rfl
theorem k_tupN : KTupN P (rs, e) ↔ DV (allVal rs) (QTupN e P) := Iff.rfl
theorem w_tupN : Ok (fTupN fr env) P ↔ Ok (fr env) (KTupN P) := by
  refine ok_bind_iff fun a => ?_
  show _ ↔ DV (allVal a.1) (QTupN a.2 P)
  unfold DV
  cases allVal a.1 with
  | none => exact ⟨fun h => (ok_none.mp h).elim, fun h => h.elim⟩
  | some ds =>
    rw [Option.bind_some, ok_guard, ok_some]
    exact Iff.rfl
theorem w_varN : Ok (fVarN i env) P ↔ (match env[i]? with | some (.fz (.nt ds)) => P (.val (.tup ds), env) | _ => False) := by
  unfold fVarN
  split <;> simp_all [ok_some, ok_none]
theorem key_2 {x y : Int} : keyD (.nt [.int x, .int y]) = some [x, y] := rfl
/-- d[k] -/
def KV (e : Env) (P : RV × Env → Prop) : D → Prop := fun d => P (.val d, e)
theorem k_v : KV e P d ↔ P (.val d, e) := Iff.rfl
def QDIx (e : Env) (P : RV × Env → Prop) : Option (List Int) → Option (List (List Int × D)) → Prop
  | some k, some kvs => Ok (kVal kvs k) (KV e P)
  | _, _ => False
def KDIx (i : Nat) (P : RV × Env → Prop) : RV × Env → Prop := fun a => match a.1 with
  | .val kd => QDIx a.2 P (keyD kd) (dctAt a.2 i)
  | _ => False
theorem q_dix : QDIx e P (some k) (some kvs) ↔ Ok (kVal kvs k) (KV e P) := Iff.rfl
theorem k_dix : KDIx i P (.val kd, e) ↔ QDIx e P (keyD kd) (dctAt e i) := Iff.rfl
theorem w_dix : Ok (fDIx i fk env) P ↔ (dctAt env i).isSome = true ∧ Ok (fk env) (KDIx i P) := by
  unfold fDIx
  cases hd : dctAt env i with
  | none => exact ⟨fun h => (ok_none.mp h).elim, fun h => by simp at h⟩
  | some z =>
    rw [Option.bind_some]
    simp only [Option.isSome_some, true_and]
    refine ok_bind_iff fun ⟨r, e⟩ => ?_
    cases r with
    | val kd =>
      show Ok (Option.bind (keyD kd) _) P ↔ QDIx e P (keyD kd) (dctAt e i)
      cases keyD kd with
      | none => exact ⟨fun h => (ok_none.mp h).elim, fun h => h.elim⟩
      | some k =>
        rw [Option.bind_some]
        show Ok (Option.bind (dctAt e i) _) P ↔ _
        cases dctAt e i with
        | none => exact ⟨fun h => (ok_none.mp h).elim, fun h => h.elim⟩
        | some kvs =>
          rw [Option.bind_some]
          exact ok_bind_iff fun d => ok_some
    | _ => exact ⟨fun h => (ok_none.mp h).elim, fun h => h.elim⟩
/-- d.get(k, x) -/
def QDG2 (e : Env) (k : List Int) (x : D) (P : RV × Env → Prop) : Option (List (List Int × D)) → Prop
  | some kvs => P (.val ((kVal kvs k).getD x), e)
  | _ => False
def KDG2 (i : Nat) (k : List Int) (P : RV × Env → Prop) : RV × Env → Prop := fun b => match frz b.1 with
  | .val x => QDG2 b.2 k x P (dctAt b.2 i)
  | _ => False
def QDG1 (i : Nat) (fx : EF) (e : Env) (P : RV × Env → Prop) : Option (List Int) → Prop
  | some k => Ok (fx e) (KDG2 i k P)
  | _ => False
def KDG1 (i : Nat) (fx : EF) (P : RV × Env → Prop) : RV × Env → Prop := fun a => match a.1 with
  | .val kd => QDG1 i fx a.2 P (keyD kd)
  | _ => False
theorem q_dg2 : QDG2 e k x P (some kvs) ↔ P (.val ((kVal kvs k).getD x), e) := Iff.rfl
theorem k_dg2 : KDG2 i k P (.val x, e) ↔ QDG2 e k x P (dctAt e i) := Iff.rfl
theorem q_dg1 : QDG1 i fx e P (some k) ↔ Ok (fx e) (KDG2 i k P) := Iff.rfl
theorem k_dg1 : KDG1 i fx P (.val kd, e) ↔ QDG1 i fx e P (keyD kd) := Iff.rfl
theorem w_dget2 : Ok (fDGet2 i fk fx env) P ↔ (dctAt env i).isSome = true ∧ Ok (fk env) (KDG1 i fx P) := by
  unfold fDGet2
  cases hd : dctAt env i with
  | none => exact ⟨fun h => (ok_none.mp h).elim, fun h => by simp at h⟩
  | some z =>
    rw [Option.bind_some]
    simp only [Option.isSome_some, true_and]
    refine ok_bind_iff fun ⟨r, e⟩ => ?_
    cases r with
    | val kd =>
      show Ok (Option.bind (keyD kd) _) P ↔ QDG1 i fx e P (keyD kd)
      cases keyD kd with
      | none => exact ⟨fun h => (ok_none.mp h).elim, fun h => h.elim⟩
      | some k =>
        rw [Option.bind_some]
        refine ok_bind_iff fun ⟨r2, e2⟩ => ?_
        show Ok (match frz r2 with | .val x => _ | _ => none) P ↔ (match frz r2 with | .val x => QDG2 e2 k x P (dctAt e2 i) | _ => False)
        cases frz r2 with
        | val x =>
          dsimp only
          cases dctAt e2 i with
          | none => exact ⟨fun h => (ok_none.mp h).elim, fun h => h.elim⟩
          | some kvs => exact ok_some
        | _ => exact ⟨fun h => (ok_none.mp h).elim, fun h => h.elim⟩
    | _ => exact ⟨fun h => (ok_none.mp h).elim, fun h => h.elim⟩
/-- k in d -/
def QDIn (neg : Bool) (e : Env) (P : RV × Env → Prop) : Option (List Int) → Option (List (List Int × D)) → Prop
  | some k, some kvs => P (.val (.bl ((kVal kvs k).isSome != neg)), e)
  | _, _ => False
def KDIn (i : Nat) (neg : Bool) (P : RV × Env → Prop) : RV × Env → Prop := fun a => match a.1 with
  | .val kd => QDIn neg a.2 P (keyD kd) (dctAt a.2 i)
  | _ => False
theorem q_din {neg : Bool} : QDIn neg e P (some k) (some kvs) ↔ P (.val (.bl ((kVal kvs k).isSome != neg)), e) := Iff.rfl
theorem k_din {neg : Bool} : KDIn i neg P (.val kd, e) ↔ QDIn neg e P (keyD kd) (dctAt e i) := Iff.rfl
theorem w_din {neg : Bool} : Ok (fDIn i neg fk env) P ↔ Ok (fk env) (KDIn i neg P) := by
  refine ok_bind_iff fun ⟨r, e⟩ => ?_
  cases r with
  | val kd =>
    show Ok (Option.bind (keyD kd) _) P ↔ QDIn neg e P (keyD kd) (dctAt e i)
    cases keyD kd with
    | none => exact ⟨fun h => (ok_none.mp h).elim, fun h => h.elim⟩
    | some k =>
      rw [Option.bind_some]
      show Ok (Option.bind (dctAt e i) _) P ↔ _
      cases dctAt e i with
      | none => exact ⟨fun h => (ok_none.mp h).elim, fun h => h.elim⟩
      | some kvs => exact ok_some
  | _ => exact ⟨fun h => (ok_none.mp h).elim, fun h => h.elim⟩
/-- d[k] = e -/
def QDP (i : Nat) (d : D) (e : Env) (PO : Out → Prop) : Option (List Int) → Option (List (List Int × D)) → Prop
  | some k, some kvs => kvs.length ≤ 1000000 ∧ PO (.nx (e.set i (.nw (.dct (kPut kvs k d)))))
  | _, _ => False
def KDP2 (i : Nat) (r : RV) (PO : Out → Prop) : RV × Env → Prop := fun b => match frz r, b.1 with
  | .val d, .val kd => QDP i d b.2 PO (keyD kd) (dctAt b.2 i)
  | _, _ => False
def KDP1 (i : Nat) (fk : EF) (PO : Out → Prop) : RV × Env → Prop := fun a => (dctAt a.2 i).isSome = true ∧ Ok (fk a.2) (KDP2 i a.1 PO)
theorem q_dp : QDP i d e PO (some k) (some kvs) ↔ kvs.length ≤ 1000000 ∧ PO (.nx (e.set i (.nw (.dct (kPut kvs k d))))) := Iff.rfl
theorem k_dp2 : KDP2 i (.val d) PO (.val kd, e) ↔ QDP i d e PO (keyD kd) (dctAt e i) := Iff.rfl
theorem k_dp2n {ds : List D} : KDP2 i (.new ds) PO (.val kd, e) ↔ QDP i (.lst ds) e PO (keyD kd) (dctAt e i) := Iff.rfl
theorem k_dp1 : KDP1 i fk PO (r, e) ↔ (dctAt e i).isSome = true ∧ Ok (fk e) (KDP2 i r PO) := Iff.rfl
theorem w_dput : Ok (fDPut i fk fe env) PO ↔ Ok (fe env) (KDP1 i fk PO) := by
  refine ok_bind_iff fun ⟨r, e⟩ => ?_
  show Ok (Option.bind (dctAt e i) _) PO ↔ (dctAt e i).isSome = true ∧ Ok (fk e) (KDP2 i r PO)
  cases dctAt e i with
  | none => exact ⟨fun h => (ok_none.mp h).elim, fun h => by simp at h⟩
  | some z =>
    rw [Option.bind_some]
    simp only [Option.isSome_some, true_and]
    refine ok_bind_iff fun ⟨r2, e2⟩ => ?_
    show Ok (match frz r, r2 with | .val d, .val kd => _ | _, _ => none) PO ↔ (match frz r, r2 with | .val d, .val kd => QDP i d e2 PO (keyD kd) (dctAt e2 i) | _, _ => False)
    cases frz r with
    | val d =>
      cases r2 with
      | val kd =>
        dsimp only
        cases keyD kd with
        | none => exact ⟨fun h => (ok_none.mp h).elim, fun h => h.elim⟩
        | some k =>
          rw [Option.bind_some]
          cases dctAt e2 i with
          | none => exact ⟨fun h => (ok_none.mp h).elim, fun h => h.elim⟩
          | some kvs =>
            rw [Option.bind_some, ok_guard, ok_some]
            exact Iff.rfl
      | _ => exact ⟨fun h => (ok_none.mp h).elim, fun h => h.elim⟩
    | _ => exact ⟨fun h => (ok_none.mp h).elim, fun h => h.elim⟩
/-- sorted(d) -/
def QDS2 (n : Nat) (e : Env) (P : RV × Env → Prop) : Option (List (Int × Int)) → Prop
  | some ps => n ≤ 1000000 ∧ P (.new ((srtP ps).map pD), e)
  | _ => False
def QDS (e : Env) (P : RV × Env → Prop) : Option (List (List Int × D)) → Prop
  | some kvs => QDS2 kvs.length e P (pairK kvs)
  | _ => False
theorem q_ds2 {n : Nat} {ps : List (Int × Int)} : QDS2 n e P (some ps) ↔ n ≤ 1000000 ∧ P (.new ((srtP ps).map pD), e) := Iff.rfl
theorem q_ds : QDS e P (some kvs) ↔ QDS2 kvs.length e P (pairK kvs) := Iff.rfl
theorem w_dsort : Ok (fDSort i env) P ↔ QDS env P (dctAt env i) := by
  unfold fDSort
  cases dctAt env i with
  | none => exact ⟨fun h => (ok_none.mp h).elim, fun h => h.elim⟩
  | some kvs =>
    rw [Option.bind_some]
    show _ ↔ QDS2 kvs.length env P (pairK kvs)
    cases pairK kvs with
    | none => exact ⟨fun h => (ok_none.mp h).elim, fun h => h.elim⟩
    | some ps =>
      rw [Option.bind_some, ok_guard, ok_some]
      exact Iff.rfl
end
section
variable {PO : Out → Prop} {env e : Env} {fr : AF} {rs : List RV} {i j l : Nat} {d d' d'' : D}
def KPutB (j l : Nat) (d' d'' : D) (PO : Out → Prop) : Env → Prop := fun e => Ok (putS j (.fz d') e) (KPut l d'' PO)
def QPar3 (i j l : Nat) (e : Env) (PO : Out → Prop) : List D → Prop
  | [d, d', d''] => Ok (putS i (.fz d) e) (KPutB j l d' d'' PO)
  | _ => False
def KPar3 (i j l : Nat) (PO : Out → Prop) : List RV × Env → Prop := fun a => DV (allVal a.1) (QPar3 i j l a.2 PO)
theorem q_par3 : QPar3 i j l e PO [d, d', d''] ↔ Ok (putS i (.fz d) e) (KPutB j l d' d'' PO) := Iff.rfl
theorem k_putB : KPutB j l d' d'' PO e ↔ Ok (putS j (.fz d') e) (KPut l d'' PO) := Iff.rfl
theorem k_par3 : KPar3 i j l PO (rs, e) ↔ DV (allVal rs) (QPar3 i j l e PO) := Iff.rfl
theorem w_par3 : Ok (fPar3 i j l fr env) PO ↔ Ok (fr env) (KPar3 i j l PO) := by
  refine ok_bind_iff fun a => ?_
  show _ ↔ DV (allVal a.1) (QPar3 i j l a.2 PO)
  unfold DV
  cases allVal a.1 with
  | none => exact ⟨fun h => (ok_none.mp h).elim, fun h => h.elim⟩
  | some ds =>
    rw [Option.bind_some]
    match ds with
    | [d, d', d''] => exact ok_bind_iff fun e1 => ok_bind_iff fun e2 => ok_bind_iff fun e3 => ok_some
    | [] => exact ⟨fun h => (ok_none.mp h).elim, fun h => h.elim⟩
    | [_] => exact ⟨fun h => (ok_none.mp h).elim, fun h => h.elim⟩
    | [_, _] => exact ⟨fun h => (ok_none.mp h).elim, fun h => h.elim⟩
    | _ :: _ :: _ :: _ :: _ => exact ⟨fun h => (ok_none.mp h).elim, fun h => h.elim⟩
end
/-! dicts of pairs to things -/
section
variable {α : Type} {c : α → D}
def encK (c : α → D) (m : List (R × α)) : List (List Int × D) := m.map fun p => ([p.1.1, p.1.2], c p.2)
def mVal (m : List (R × α)) (k : R) : Option α := (m.find? fun p => decide (p.1 = k)).map (·.2)
def mPut (m : List (R × α)) (k : R) (x : α) : List (R × α) := if (m.any fun p => decide (p.1 = k)) = true then m.map (fun p => if p.1 = k then (p.1, x) else p) else m ++ [(k, x)]
theorem k2_iff {p k : R} : ([p.1, p.2] = [k.1, k.2]) ↔ p = k := by
  constructor
  · intro h
    injection h with h1 h2
    injection h2 with h2
    exact Prod.ext h1 h2
  · intro h
    rw [h]
theorem encK_len (m : List (R × α)) : (encK c m).length = m.length := List.length_map _
theorem kVal_enc (m : List (R × α)) (x y : Int) : kVal (encK c m) [x, y] = (mVal m (x, y)).map c := by
  induction m with
  | nil => rfl
  | cons p m ih =>
    unfold kVal mVal encK at ih ⊢
    by_cases h : p.1 = (x, y)
    · rw [List.map_cons, List.find?_cons_of_pos (by simpa using k2_iff.mpr h), List.find?_cons_of_pos (by simpa using h)]
      rfl
    · rw [List.map_cons, List.find?_cons_of_neg (by intro z; exact h ((k2_iff (k := (x, y))).mp (of_decide_eq_true z))), List.find?_cons_of_neg (by simpa using h)]
      exact ih
theorem any_enc (m : List (R × α)) (x y : Int) : ((encK c m).any fun kv => decide (kv.1 = [x, y])) = m.any fun p => decide (p.1 = (x, y)) := by
  unfold encK
  rw [List.any_map]
  congr 1
  funext p
  show decide ([p.1.1, p.1.2] = [x, y]) = _
  exact decide_eq_decide.mpr (k2_iff (p := p.1) (k := (x, y)))
theorem kPut_enc (m : List (R × α)) (x y : Int) (a : α) : kPut (encK c m) [x, y] (c a) = encK c (mPut m (x, y) a) := by
  unfold kPut mPut
  rw [any_enc]
  split
  · unfold encK
    rw [List.map_map, List.map_map]
    refine List.map_congr_left fun p _ => ?_
    show (if [p.1.1, p.1.2] = [x, y] then ([p.1.1, p.1.2], c a) else ([p.1.1, p.1.2], c p.2)) = _
    by_cases h : p.1 = (x, y)
    · rw [if_pos ((k2_iff (k := (x, y))).mpr h)]
      show _ = ((fun p : R × α => ([p.1.1, p.1.2], c p.2)) (if p.1 = (x, y) then (p.1, a) else p))
      rw [if_pos h]
    · rw [if_neg (fun z => h ((k2_iff (k := (x, y))).mp z))]
      show _ = ((fun p : R × α => ([p.1.1, p.1.2], c p.2)) (if p.1 = (x, y) then (p.1, a) else p))
      rw [if_neg h]
  · unfold encK
    rw [List.map_append]
    rfl
theorem pairK_enc (m : List (R × α)) : pairK (encK c m) = some (m.map (·.1)) := by
  induction m with
  | nil => rfl
  | cons p m ih =>
    show (pairK (encK c m)).bind _ = _
    rw [ih]
    rfl
theorem mVal_put (m : List (R × α)) (k j : R) (x : α) : mVal (mPut m k x) j = if j = k then some x else mVal m j := by
  have snoc : ∀ m : List (R × α), (∀ p, p ∈ m → p.1 ≠ k) → mVal (m ++ [(k, x)]) j = if j = k then some x else mVal m j := by
    intro m
    induction m with
    | nil =>
      intro _
      unfold mVal
      by_cases h : j = k
      · rw [if_pos h, h]
        simp
      · rw [if_neg h, List.nil_append, List.find?_cons_of_neg (by simpa using fun z => h z.symm)]
    | cons p m ih =>
      intro hp
      have ih := ih fun q hq => hp q (List.mem_cons_of_mem _ hq)
      have hk := hp p List.mem_cons_self
      unfold mVal at ih ⊢
      by_cases h : p.1 = j
      · rw [List.cons_append, List.find?_cons_of_pos (by simpa using h), List.find?_cons_of_pos (by simpa using h), if_neg (fun z => hk (by rw [h, z]))]
      · rw [List.cons_append, List.find?_cons_of_neg (by simpa using h), List.find?_cons_of_neg (by simpa using h)]
        exact ih
  unfold mPut
  split
  · rename_i hany
    have key : ∀ m : List (R × α), mVal (m.map fun p => if p.1 = k then (p.1, x) else p) j = if j = k then (mVal m j).map fun _ => x else mVal m j := by
      intro m
      induction m with
      | nil => unfold mVal; simp
      | cons p m ih =>
        unfold mVal at ih ⊢
        by_cases h : p.1 = j
        · rw [List.map_cons, List.find?_cons_of_pos (by split <;> simpa using h), List.find?_cons_of_pos (by simpa using h)]
          by_cases hk : j = k
          · rw [if_pos hk, if_pos (by rw [h, hk])]
            rfl
          · rw [if_neg hk, if_neg (by rw [h]; exact hk)]
        · rw [List.map_cons, List.find?_cons_of_neg (by split <;> simpa using h), List.find?_cons_of_neg (by simpa using h)]
          exact ih
    rw [key m]
    by_cases hk : j = k
    · rw [if_pos hk, if_pos hk]
      obtain ⟨p, hp, hp2⟩ := List.any_eq_true.mp hany
      have : (mVal m j).isSome = true := by
        unfold mVal
        rw [Option.isSome_map, List.find?_isSome]
        exact ⟨p, hp, by rw [hk]; exact hp2⟩
      cases h : mVal m j with
      | none => rw [h] at this; cases this
      | some y => rfl
    · rw [if_neg hk, if_neg hk]
  · rename_i hany
    refine snoc m fun p hp z => hany (List.any_eq_true.mpr ⟨p, hp, by simpa using z⟩)
theorem mKeys_put (m : List (R × α)) (k : R) (x : α) (j : R) : j ∈ (mPut m k x).map (·.1) ↔ j = k ∨ j ∈ m.map (·.1) := by
  unfold mPut
  split
  · rename_i hany
    have e : (m.map fun p => if p.1 = k then (p.1, x) else p).map (·.1) = m.map (·.1) := by
      rw [List.map_map]
      refine List.map_congr_left fun p _ => ?_
      show (if p.1 = k then (p.1, x) else p).1 = p.1
      split <;> rfl
    rw [e]
    obtain ⟨p, hp, hp2⟩ := List.any_eq_true.mp hany
    exact ⟨.inr, fun h => h.elim (fun h => by rw [h]; exact List.mem_map.mpr ⟨p, hp, by simpa using hp2⟩) id⟩
  · rw [List.map_append, List.mem_append]
    simp [or_comm]
theorem mLen_put (m : List (R × α)) (k : R) (x : α) : (mPut m k x).length ≤ m.length + 1 := by
  unfold mPut
  split
  · rw [List.length_map]
    omega
  · simp
theorem pD_R (ps : List R) : ps.map pD = ps.map encR := rfl
end
/-! lists of own lists -/
section
variable {P : RV × Env → Prop} {PO : Out → Prop} {PN : List (List D) × Env → Prop} {env e : Env} {f fa : EF} {fr : NF} {i k : Nat} {r : RV} {ds es : List D} {dss : List (List D)} {d : D} {w : OV}
theorem w_nilN : Ok (fNilN env) PN ↔ PN ([], env) := ok_some
def KConsN2 (ds : List D) (PN : List (List D) × Env → Prop) : List (List D) × Env → Prop := fun r => PN (ds :: r.1, r.2)
def KConsN (fr : NF) (PN : List (List D) × Env → Prop) : RV × Env → Prop := fun a => match a.1 with
  | .new ds => Ok (fr a.2) (KConsN2 ds PN)
  | _ => False
theorem k_consN2 : KConsN2 ds PN (dss, e) ↔ PN (ds :: dss, e) := Iff.rfl
theorem k_consN : KConsN fr PN (.new ds, e) ↔ Ok (fr e) (KConsN2 ds PN) := Iff.rfl
theorem w_consN : Ok (fConsN fa fr env) PN ↔ Ok (fa env) (KConsN fr PN) := by
  refine ok_bind_iff fun ⟨r, e⟩ => ?_
  cases r with
  | new ds => exact ok_bind_iff fun x => ok_some
  | _ => exact ⟨fun h => (ok_none.mp h).elim, fun h => h.elim⟩
def KLs2 (i : Nat) (PO : Out → Prop) : List (List D) × Env → Prop := fun a => a.1.length ≤ 1000 ∧ Ok (putS i (.nw (.ls2 a.1)) a.2) (KNx PO)
theorem k_ls2 : KLs2 i PO (dss, e) ↔ dss.length ≤ 1000 ∧ Ok (putS i (.nw (.ls2 dss)) e) (KNx PO) := Iff.rfl
theorem w_ls2 : Ok (fLs2 i fr env) PO ↔ Ok (fr env) (KLs2 i PO) := by
  refine ok_bind_iff fun ⟨r, e⟩ => ?_
  dsimp only
  rw [ok_guard]
  exact and_congr Iff.rfl (ok_bind_iff fun x => ok_some)
def KO2b (i k : Nat) (env : Env) (dss : List (List D)) (P : RV × Env → Prop) : List D → Prop := fun es => P (.val .non, env.set i (.nw (.ls2 (dss.set k es))))
def KO2 (i k : Nat) (h : List D → Option (List D)) (env : Env) (dss : List (List D)) (P : RV × Env → Prop) : List D → Prop := fun ds => Ok (h ds) (KO2b i k env dss P)
def QO2 (i k : Nat) (h : List D → Option (List D)) (env : Env) (P : RV × Env → Prop) : Option SV → Prop
  | some (.nw (.ls2 dss)) => Ok dss[k]? (KO2 i k h env dss P)
  | _ => False
theorem q_o2 {h : List D → Option (List D)} : QO2 i k h env P (some (.nw (.ls2 dss))) ↔ Ok dss[k]? (KO2 i k h env dss P) := Iff.rfl
theorem k_o2 {h : List D → Option (List D)} : KO2 i k h env dss P ds ↔ Ok (h ds) (KO2b i k env dss P) := Iff.rfl
theorem k_o2b : KO2b i k env dss P es ↔ P (.val .non, env.set i (.nw (.ls2 (dss.set k es)))) := Iff.rfl
theorem w_o2 {h : List D → Option (List D)} : Ok (fO2M0 i k h env) P ↔ QO2 i k h env P env[i]? := by
  unfold fO2M0
  cases env[i]? with
  | none => exact ⟨fun h => (ok_none.mp h).elim, fun h => h.elim⟩
  | some s =>
    cases s with
    | nw w =>
      cases w with
      | ls2 dss => exact ok_bind_iff fun ds => ok_bind_iff fun es => ok_some
      | _ => exact ⟨fun h => (ok_none.mp h).elim, fun h => h.elim⟩
    | _ => exact ⟨fun h => (ok_none.mp h).elim, fun h => h.elim⟩
def KLend2 (i : Nat) (dss : List (List D)) (env : Env) (P : RV × Env → Prop) : RV × Env → Prop := fun a => (a.2.all ownNoL && noR a.1) = true ∧ P (a.1, (List.zipWith mergeS env a.2).set i (.nw (.ls2 dss)))
def QLend2 (i : Nat) (f : EF) (env : Env) (P : RV × Env → Prop) : Option SV → Prop
  | some (.nw (.ls2 dss)) => (env.set i .no).all notNw = true ∧ Ok (f (env.set i (.fz (.lst (dss.map D.lst))))) (KLend2 i dss env P)
  | _ => False
theorem q_lend2 : QLend2 i f env P (some (.nw (.ls2 dss))) ↔ (env.set i .no).all notNw = true ∧ Ok (f (env.set i (.fz (.lst (dss.map D.lst))))) (KLend2 i dss env P) := Iff.rfl
theorem k_lend2 : KLend2 i dss env P (r, e) ↔ (e.all ownNoL && noR r) = true ∧ P (r, (List.zipWith mergeS env e).set i (.nw (.ls2 dss))) := Iff.rfl
theorem w_lend2 : Ok (fLend2 i f env) P ↔ QLend2 i f env P env[i]? := by
  unfold fLend2
  cases env[i]? with
  | none => exact ⟨fun h => (ok_none.mp h).elim, fun h => h.elim⟩
  | some s =>
    cases s with
    | nw w =>
      cases w with
      | ls2 dss =>
        dsimp only
        rw [ok_guard]
        refine and_congr Iff.rfl (ok_bind_iff fun x => ?_)
        rw [ok_guard, ok_some]
        exact Iff.rfl
      | _ => exact ⟨fun h => (ok_none.mp h).elim, fun h => h.elim⟩
    | _ => exact ⟨fun h => (ok_none.mp h).elim, fun h => h.elim⟩
theorem mapL_c : (ds :: dss).map D.lst = .lst ds :: dss.map D.lst := rfl
theorem mapL_n : ([] : List (List D)).map D.lst = [] := rfl
theorem m_nw : mergeS (.nw w) (.fz d) = .no := rfl
theorem nn_nw : notNw (.nw w) = false := rfl
theorem nn_no : notNw .no = true := rfl
theorem nn_fz : notNw (.fz d) = true := rfl
theorem nn_o1 : notNw (.o1 ds) = true := rfl
theorem nn_io : notNw (.io ds) = true := rfl
end
end Dv

/-! # sorted of things that are alike -/
namespace Dv
open PySem L2
/-- the order of things -/
def leD (a b : D) : Bool := PySem.W.dataLe false toPy a b
def rSortD (K : PySem.W.Frag) : List V → Hp → VK → Prop := fun vs H Q => ∃ (a : Addr) (bs : List (V × D)), vs = [V.ref a] ∧ SqL K H a (bs.map (·.1)) ∧ (∀ b, b ∈ bs → Dp K H b.1 (toPy b.2)) ∧
  PySem.W.AllAlike (bs.map fun b => toPy b.2) ∧ PySem.W.Sortable (bs.map fun b => toPy b.2) ∧ (∀ b, b ∈ bs → (toPy b.2).depth ≤ 50) ∧
  ∀ p, H p = none → Q (.ref p) (upd H p (.lst ((bs.mergeSort fun a b => leD a.2 b.2).map (·.1))))
theorem each_vals : ∀ {us : List Value} {bs : List (V × D)}, PySem.W.EachIs (fun u (b : V × D) => RelV b.1 u) us bs → Vals (bs.map (·.1)) us
  | _, _, .nil => .nil
  | _, _, .cons h t => .cons h (each_vals t)
theorem vals_each : ∀ {us : List Value} {bs : List (V × D)}, Vals (bs.map (·.1)) us → PySem.W.EachIs (fun u (b : V × D) => RelV b.1 u) us bs
  | _, [], h => by cases h; exact .nil
  | _, b :: bs, h => by
    cases h with
    | cons h1 h2 => exact .cons h1 (vals_each h2)
theorem each_in {α β : Type} {R R' : α → β → Prop} : ∀ {as : List α} {bs : List β}, PySem.W.EachIs R as bs → (∀ a b, b ∈ bs → R a b → R' a b) → PySem.W.EachIs R' as bs
  | _, _, .nil, _ => .nil
  | _, _, .cons h t, k => .cons (k _ _ List.mem_cons_self h) (each_in t fun a b hb => k a b (List.mem_cons_of_mem _ hb))
theorem cr_sortD {X : Cx} (hu : X.A.units + 64 < cLine) : CallR X (.builtin "sorted") (rSortD X.K) := by
  intro pins s σ H vs us Q I r h
  obtain ⟨a, bs, rfl, hs, hd, hal, hk, hdep, q⟩ := h
  obtain ⟨its, rv, hl, hz⟩ := I.list hs
  rw [Vals.ref1 r]
  have e := vals_each rv
  have len : its.length = bs.length := e.length
  refine PySem.W.sorted_data (vs := its) (bs := bs) (enc := fun b => toPy b.2) (R := fun u (b : V × D) => RelV b.1 u) hl.isList e (each_in e fun u b hb hr => Dp.reads I _ _ _ (hd b hb) hr) hal hk (by rw [← len, ← rv.length]; exact hz) (fun b hb => by have := hdep b hb; omega) fun out ho h1 => ?_
  obtain ⟨ep, he⟩ := PyProof.Rows.sortedAll_at s.heap its out.toArray
  have k1 := each_vals h1
  have hlen : ((bs.mergeSort fun a b => leD a.2 b.2).map (·.1)).length ≤ sizeLine := by
    rw [List.length_map, List.length_mergeSort, ← List.length_map (f := (·.1))]
    exact hz
  exact ⟨.ref _, upd H (s.heap.objs.size + 1) (.lst ((bs.mergeSort fun a b => leD a.2 b.2).map (·.1))), I.laid (t' := s.toks) (fun _ _ => PyProof.Rows.sortedAll_old) (Nat.le_succ _) ⟨hlen, out, ep, k1, he⟩, rfl, q _ (I.hok.fresh (Nat.le_succ _))⟩
/-- whether things can be sorted -/
def isTup1 : PyData → Bool
  | .tuple (_ :: _) => true
  | _ => false
def isPlain : PyData → Bool
  | .none => false
  | .tuple _ => false
  | _ => true
def canSort (ds : List D) : Bool := (ds.all fun d => ds.all fun e => PySem.W.alike (toPy d) (toPy e)) && ((ds.all fun d => isTup1 (toPy d)) || (ds.all fun d => isPlain (toPy d))) && (ds.all fun d => decide ((toPy d).depth ≤ 50)) && PyData.canLayAll0 (toPys ds)
def gSortD : GB
  | [.lst ds] => if canSort ds = true then some (.new (ds.mergeSort leD)) else none
  | _ => none
theorem dqa_pairs {K : PySem.W.Frag} {G : Hp} : ∀ {l : List (V × D)}, (∀ b, b ∈ l → Dq K G b.1 b.2) → DqA K G (l.map (·.1)) (l.map (·.2))
  | [], _ => .nil
  | b :: l, h => .cons (h b List.mem_cons_self) (dqa_pairs fun c hc => h c (List.mem_cons_of_mem _ hc))
theorem pairs_dqa {K : PySem.W.Frag} {G : Hp} : ∀ {vs : List V} {ds : List D}, DqA K G vs ds → ∃ l : List (V × D), vs = l.map (·.1) ∧ ds = l.map (·.2) ∧ ∀ b, b ∈ l → Dq K G b.1 b.2
  | [], _, h => by
    cases h
    exact ⟨[], rfl, rfl, fun b hb => nomatch hb⟩
  | v :: vs, _, h => by
    cases h with
    | @cons _ _ d ds h1 h2 =>
      obtain ⟨l, rfl, rfl, k⟩ := pairs_dqa h2
      refine ⟨(v, d) :: l, rfl, rfl, fun b hb => ?_⟩
      rcases List.mem_cons.mp hb with rfl | z
      · exact h1
      · exact k b z
theorem lay_mem : ∀ {ds : List D} {d : D}, PyData.canLayAll0 (toPys ds) = true → d ∈ ds → PyData.canLay0 (toPy d) = true
  | e :: ds, d, h, m => by
    simp only [toPys, PyData.canLayAll0, Bool.and_eq_true] at h
    rcases List.mem_cons.mp m with rfl | m
    · exact h.1
    · exact lay_mem h.2 m
theorem cg_sortD {K : PySem.W.Frag} : CallG K (rSortD K) gSortD := by
  intro B O I σ H env vs rs ds z S P e ez Q q
  unfold gSortD at ez
  split at ez
  · rename_i ds1
    split at ez
    · rename_i hc
      cases ez
      obtain ⟨v, r, rfl, P1, e1⟩ := one_of P e
      obtain ⟨p1, xs, rfl, h1, k1⟩ := P1.items e1
      unfold canSort at hc
      simp only [Bool.and_eq_true, List.all_eq_true, Bool.or_eq_true, decide_eq_true_eq] at hc
      obtain ⟨⟨⟨c1, c2⟩, c3⟩, c4⟩ := hc
      obtain ⟨l, rfl, rfl, k2⟩ := pairs_dqa k1
      have ms : (l.mergeSort fun a b => leD a.2 b.2).map (·.2) = (l.map (·.2)).mergeSort leD := List.map_mergeSort fun a _ b _ => rfl
      refine ⟨p1, l, rfl, .inl (.inl h1), fun b hb => ?_, fun d hd d' hd' => ?_, ?_, fun b hb => c3 _ (List.mem_map.mpr ⟨b, hb, rfl⟩), fun p hp => q _ _ ?_⟩
      · exact Dq.py b.2 b.1 (Dq.mono mi_same _ _ (k2 b hb)) (lay_mem c4 (List.mem_map.mpr ⟨b, hb, rfl⟩))
      · obtain ⟨b, hb, rfl⟩ := List.mem_map.mp hd
        obtain ⟨b', hb', rfl⟩ := List.mem_map.mp hd'
        exact c1 _ (List.mem_map.mpr ⟨b, hb, rfl⟩) _ (List.mem_map.mpr ⟨b', hb', rfl⟩)
      · rcases c2 with c2 | c2
        · refine .inl fun d hd => ?_
          obtain ⟨b, hb, rfl⟩ := List.mem_map.mp hd
          have := c2 _ (List.mem_map.mpr ⟨b, hb, rfl⟩)
          cases hx : toPy b.2 with
          | tuple xs =>
            cases xs with
            | nil => rw [hx] at this; cases this
            | cons x r => exact ⟨x, r, rfl⟩
          | _ => rw [hx] at this; cases this
        · refine .inr fun d hd => ?_
          obtain ⟨b, hb, rfl⟩ := List.mem_map.mp hd
          have := c2 _ (List.mem_map.mpr ⟨b, hb, rfl⟩)
          cases hx : toPy b.2 with
          | tuple xs => rw [hx] at this; cases this
          | none => rw [hx] at this; cases this
          | _ => exact ⟨fun z => PyData.noConfusion z, fun xs z => PyData.noConfusion z⟩
      · rw [← ms]
        exact post_new S hp (dqa_pairs fun b hb => k2 b (List.mem_mergeSort.mp hb))
    · cases ez
  · cases ez
end Dv

/-! # a list within an own list of lists is changed by what a name holds -/
namespace Dv
open PySem L2
section
variable {K : PySem.W.Frag} {B : Hp} {O : List Addr} {I : List (Nat × Addr)} {σ : L2.St} {H H' : Hp} {env env' : Env} {v : V} {W : WN}
def fO2V (i k j : Nat) (h : D → List D → Option (List D)) : EF := fun env => match env[i]?, env[j]? with
  | some (.nw (.ls2 dss)), some (.fz d) => (dss[k]?).bind fun ds => (h d ds).bind fun es => some (.val .non, env.set i (.nw (.ls2 (dss.set k es))))
  | _, _ => none
theorem snd_o2v {i k j : Nat} {r : V → List V → Hp → VK → Prop} {h : D → List D → Option (List D)}
    (hr : ∀ (H : Hp) (O : List Addr) (p : Addr) (xs : List V) (ds es : List D) (x : V) (d : D), H p = some (.lst xs) → DqA K (mi H O) xs ds → Dq K (mi H O) x d → h d ds = some es →
      ∀ Q : VK, (∀ ys, DqA K (mi H O) ys es → Q .non (upd H p (.lst ys))) → r (.ref p) [x] H Q) : Snd K (tBM K "list" r (tOp (rIx K) (tVar i) (tC (.int (k : Nat)))) (tCons (tVar j) tNil)) (fO2V i k j h) := by
  intro B O I σ H env rv env' S e Q q
  unfold fO2V at e
  split at e
  · rename_i dss d hi hj
    obtain ⟨ds, e1, e⟩ := bnd e
    obtain ⟨es, e2, e⟩ := bnd e
    cases e
    obtain ⟨p, qs, a, xs, s1, hp, g1, g2, g3, up⟩ := S.up2 (es := es) hi e1
    obtain ⟨x, s2, dx⟩ := S.fz j d hj
    have ea : L2.atI (qs.map V.ref) (k : Int) = some (V.ref a) := atI_n (by rw [List.getElem?_map, g1]; rfl)
    exact ⟨_, s1, .inl ⟨p, _, _, _, rfl, rfl, .inl (.inl hp), ea, tyL g2, x, s2, hr H O a xs ds es x d g2 g3 dx e2 _ fun ys hy => q _ _ ⟨up ys hy, .non⟩⟩⟩
  · cases e
theorem snd_extend2 {i k j : Nat} : Snd K (tBM K "list" rExtend (tOp (rIx K) (tVar i) (tC (.int (k : Nat)))) (tCons (tVar j) tNil)) (fO2V i k j hExt) :=
  snd_o2v fun H O p xs ds es x d hp hx dx eh Q q => by
    unfold hExt at eh
    split at eh
    · split at eh
      · cases eh
        rename_i hl
        cases dx with
        | lst g1 g2 =>
          refine ⟨p, _, xs, _, rfl, rfl, hp, (mi_some g1).2, ?_, q _ (hx.append g2)⟩
          rw [hx.length, g2.length]
          exact line_of hl
      · cases eh
    · cases eh
variable {P : RV × Env → Prop}
def KO2v (i k : Nat) (h : D → List D → Option (List D)) (d : D) (env : Env) (dss : List (List D)) (P : RV × Env → Prop) : List D → Prop := fun ds => Ok (h d ds) (KO2b i k env dss P)
def QO2v (i k : Nat) (h : D → List D → Option (List D)) (env : Env) (P : RV × Env → Prop) : Option SV → Option SV → Prop
  | some (.nw (.ls2 dss)), some (.fz d) => Ok dss[k]? (KO2v i k h d env dss P)
  | _, _ => False
theorem q_o2v {i k : Nat} {h : D → List D → Option (List D)} {dss : List (List D)} {d : D} : QO2v i k h env P (some (.nw (.ls2 dss))) (some (.fz d)) ↔ Ok dss[k]? (KO2v i k h d env dss P) := Iff.rfl
theorem k_o2v {i k : Nat} {h : D → List D → Option (List D)} {dss : List (List D)} {d : D} {ds : List D} : KO2v i k h d env dss P ds ↔ Ok (h d ds) (KO2b i k env dss P) := Iff.rfl
theorem w_o2v {i k j : Nat} {h : D → List D → Option (List D)} : Ok (fO2V i k j h env) P ↔ QO2v i k h env P env[i]? env[j]? := by
  unfold fO2V
  cases env[i]? with
  | none => exact ⟨fun h => (ok_none.mp h).elim, fun h => h.elim⟩
  | some s =>
    cases s with
    | nw w =>
      cases w with
      | ls2 dss =>
        cases env[j]? with
        | none => exact ⟨fun h => (ok_none.mp h).elim, fun h => h.elim⟩
        | some s2 =>
          cases s2 with
          | fz d => exact ok_bind_iff fun ds => ok_bind_iff fun es => ok_some
          | _ => exact ⟨fun h => (ok_none.mp h).elim, fun h => h.elim⟩
      | _ => exact ⟨fun h => (ok_none.mp h).elim, fun h => h.elim⟩
    | _ => exact ⟨fun h => (ok_none.mp h).elim, fun h => h.elim⟩
/-- t + u, both with an item at least -/
def gCatT : G2
  | .tup as, .tup bs => if as ≠ [] ∧ bs ≠ [] ∧ as.length + bs.length ≤ 10000000 then some (.val (.tup (as ++ bs))) else none
  | _, _ => none
theorem op2_catT : Op2 K (rCatT K) gCatT := by
  intro B O I σ H env x y ra rb d e z P1 P2 e1 e2 ez Q q
  unfold gCatT at ez
  split at ez
  · split at ez
    · rename_i hc
      cases ez
      obtain ⟨p1, xs, rfl, h1, k1⟩ := P1.tuple e1
      obtain ⟨p2, ys, rfl, h2, k2⟩ := P2.tuple e2
      have n1 : xs ≠ [] := fun z => hc.1 (List.length_eq_zero_iff.mp (by rw [← k1.length, z]; rfl))
      have n2 : ys ≠ [] := fun z => hc.2.1 (List.length_eq_zero_iff.mp (by rw [← k2.length, z]; rfl))
      exact ⟨p1, p2, xs, ys, rfl, rfl, h1, h2, n1, by rw [k1.length, k2.length]; exact line_of hc.2.2, fun z => absurd z n2, fun _ p hp => q _ _ (post_tup P1.sta hp (k1.append k2))⟩
    · cases ez
  · cases ez
end
end Dv

/-! # a list unpacked, x in a tuple; try with many handlers -/
namespace Dv
open PySem L2
section
variable {K : PySem.W.Frag} {B : Hp} {O : List Addr} {I : List (Nat × Addr)} {σ : L2.St} {H H' : Hp} {env env' : Env} {v : V} {W : WN} {t ta tb te : TE} {f fa fb fe : EF} {cl : Nat → Addr}
/-- a, b, .. = a list -/
def gfUnl (n : Nat) (h : List D → Env → Option Env) : GF := fun d env => match d with
  | .lst ds => if ds.length = n then h ds env else none
  | _ => none
theorem sg_unl {gs : TGs} {hs : List D → Env → Option Env} {n : Nat} (h2 : SndGs K gs hs) : SndG K (L2.gLst K n gs) (gfUnl n hs) := by
  intro B O I σ H env v d env' S hd e Q q
  unfold gfUnl at e
  split at e
  · split at e
    · cases hd with
      | lst h1 h3 => exact ⟨_, _, rfl, .inl (.inl (mi_same _ _ h1)), by rw [h3.length]; assumption, h2 B O I σ H env _ _ env' S h3 e Q q⟩
    · cases e
  · cases e
theorem w_gunl {n : Nat} {h : List D → Env → Option Env} {ds : List D} {K : Env → Prop} : Ok (gfUnl n h (.lst ds) env) K ↔ ds.length = n ∧ Ok (h ds env) K := ok_guard
/-- i in (j, ..) -/
def gInT : G2
  | .int i, .tup ds => (allInts ds).bind fun ns => some (.val (.bl (ns.any fun j => decide (j = i))))
  | _, _ => none
def gNotInT : G2
  | .int i, .tup ds => (allInts ds).bind fun ns => some (.val (.bl (!ns.any fun j => decide (j = i))))
  | _, _ => none
theorem inV_ints (i : Int) : ∀ ns : List Int, L2.inV (.int i) (ns.map V.int) = ns.any fun j => decide (j = i)
  | [] => rfl
  | n :: ns => by
    have ih := inV_ints i ns
    unfold L2.inV at ih ⊢
    rw [List.map_cons, List.any_cons, List.any_cons, ih]
    congr 1
theorem flat_ints : ∀ ns : List Int, (ns.map V.int).all L2.flatV = true
  | [] => rfl
  | n :: ns => by
    rw [List.map_cons, List.all_cons, flat_ints ns]
    rfl
theorem op2_inT : Op2 K (L2.rIn K false) gInT := by
  intro B O I σ H env x y ra rb d e z P1 P2 e1 e2 ez Q q
  unfold gInT at ez
  split at ez
  · obtain ⟨ns, e3, e4⟩ := bnd ez
    cases e4
    rw [allInts_eq e3] at e2
    obtain ⟨p2, ys, rfl, h2, k2⟩ := P2.tuple e2
    have dx := P1.read e1
    cases dx
    rw [k2.isInts] at h2
    exact ⟨p2, _, rfl, .inr h2, rfl, flat_ints ns, by rw [inV_ints]; exact q _ H ⟨P1.sta, .bl _⟩⟩
  · cases ez
theorem op2_notInT : Op2 K (L2.rIn K true) gNotInT := by
  intro B O I σ H env x y ra rb d e z P1 P2 e1 e2 ez Q q
  unfold gNotInT at ez
  split at ez
  · obtain ⟨ns, e3, e4⟩ := bnd ez
    cases e4
    rw [allInts_eq e3] at e2
    obtain ⟨p2, ys, rfl, h2, k2⟩ := P2.tuple e2
    have dx := P1.read e1
    cases dx
    rw [k2.isInts] at h2
    exact ⟨p2, _, rfl, .inr h2, rfl, flat_ints ns, by rw [inV_ints]; exact q _ H ⟨P1.sta, .bl _⟩⟩
  · cases ez
theorem gInT_of (i : Int) (ns : List Int) : gInT (.int i) (.tup (ns.map D.int)) = some (.val (.bl (ns.any fun j => decide (j = i)))) := by
  show (allInts (ns.map D.int)).bind _ = _
  rw [allInts_map]
  rfl
theorem gNotInT_of (i : Int) (ns : List Int) : gNotInT (.int i) (.tup (ns.map D.int)) = some (.val (.bl (!ns.any fun j => decide (j = i)))) := by
  show (allInts (ns.map D.int)).bind _ = _
  rw [allInts_map]
  rfl
theorem gInT_2 (i a b : Int) : gInT (.int i) (.tup [.int a, .int b]) = some (.val (.bl (decide (a = i) || decide (b = i)))) := (gInT_of i [a, b]).trans (by simp)
theorem gNotInT_2 (i a b : Int) : gNotInT (.int i) (.tup [.int a, .int b]) = some (.val (.bl (!(decide (a = i) || decide (b = i))))) := (gNotInT_of i [a, b]).trans (by simp)

/-! ### try with handlers one behind the other; a name for each -/
abbrev Hd := Value × Nat × (Addr → Value → Option Addr → TS)
/-- what is wished of a refusal in the body -/
def wMost (K : PySem.W.Frag) (D : Ends) : List Hd → L2.WX
  | [] => fun _ _ _ _ => False
  | h :: r => fun cls d σ H => ∃ b, PySem.W.exmOne K cls h.1 = some b ∧
      (b = true → ∀ a, H a = none → h.2.2 a cls d { nx := fun σ' H' => D.nx (σ'.set h.2.1 none) H', rt := D.rt, bk := fun σ' H' => D.bk (σ'.set h.2.1 none) H', ct := fun σ' H' => D.ct (σ'.set h.2.1 none) H' } (σ.set h.2.1 (some (.ref a))) H) ∧
      (b = false → wMost K D r cls d σ H)
inductive HdsAs (X : Cx) : List ExceptHandler → List Hd → Prop
  | rest {hds : List ExceptHandler} : HdsAs X hds []
  | cons {x n : Str} {c : Value} {i : Nat} {ts : Addr → Value → Option Addr → TS} {b₀ : Stmt} {suite : List Stmt} {np pos' : Pos} {hds : List ExceptHandler} {l : List Hd}
      (hi : X.N[i]? = some n) (hln : X.env.kindOf n = some .local) (hc : Names X x c)
      (hsu : ∀ (a : Addr) (oe : Obj) (cls : Value) (d : Option Addr) (pn : List (Addr × Obj)), L2N.Zn cls d oe → (∃ vs, oe.data = .fields vs) → L2.PSs (X.suite a ((a, oe) :: pn)) (b₀ :: suite) (ts a cls d))
      (r : HdsAs X hds l) : HdsAs X (.ExceptHandler (some (.Name x np)) (some n) (b₀ :: suite) pos' :: hds) ((c, i, ts) :: l)
end
section
open PySem PySem.Spec PyProof.Rows
variable {X : Cx} {body : List Stmt} {h₀ : ExceptHandler} {hds : List ExceptHandler} {l : List Hd} {pos : Pos} {tb : L2.WX → TS}
theorem ps_try_most (hs : X.stack = X.env :: X.outer) (hf : X.env.frame = some X.env.locals) (hN : X.N.Nodup)
    (hb : ∀ (W : L2.WX) (pn : List (Addr × Obj)) (xe : Value → Shared → Prop), L2N.Takes (X.tr pn xe) W → PassesOwn (model X.prog X.w) X.A X.env xe → L2.PSs (X.tr pn xe) body (tb W))
    (hh : HdsAs X (h₀ :: hds) l) : L2.PS X (.Try body (h₀ :: hds) [] [] pos) (fun D σ H => tb (wMost X.K D l) D σ H) := by
  refine ⟨fun pins s σ H D I h => ?_⟩
  have ok := I.ok
  have fr0 : X.A.frames = some (X.env :: X.outer) := by rw [ok.frames, hs]
  let catch_ : Value → Shared → Prop := fun e s1 => wpAny (model X.prog X.w) X.A (noteFrame e X.env) (fun _ s2 => wpAny (model X.prog X.w) X.A (setFlight e none) (fun _ s3 => wpAny (model X.prog X.w) X.A (handleBy e X.env (h₀ :: hds)) (SP X pins D) X.xe s3) X.xe s2) X.xe s1
  have take : L2N.Takes (X.tr (X.pn ++ pins) catch_) (wMost X.K D l) := by
    intro u s' xx
    obtain ⟨a, B, sI, pins', σ', H', cls, d, rfl, J', nb, up, sky, na, os, ag, wish⟩ := xx
    have J : Inv X pins σ' H' sI := J'.ofTry ok
    have sky2 : L2.Sky B (X.env :: X.outer) a (L2N.Zn cls d) X.env.locals s'.heap := by rw [← hs]; exact sky
    show wpAny (model X.prog X.w) X.A (noteFrame (.ref a) X.env) _ _ _
    refine L2N.Sky.land L2N.Zn.steady fr0 hf sky2 fun h3 fl3 up3 => ?_
    have J3 : Inv X pins σ' H' { s' with heap := h3 } := J.landed nb fl3.1 (up.trans up3) os ag
    obtain ⟨o3, v3, at3, zn3, dat3⟩ := fl3.there
    have apart : a ∉ frs (X.env :: X.outer) := fun hm => by
      obtain ⟨_, o', e', hnf⟩ := fl3.2.2.1.mem hm
      rw [at3] at e'
      cases e'
      exact hnf _ dat3
    have aL : a ≠ X.env.locals := fun z => apart (List.mem_filterMap.mpr ⟨X.env, List.mem_cons_self, by rw [hf, z]⟩)
    have aF : a ∉ X.fs := fun hm => by
      obtain ⟨e, he, q⟩ := List.mem_filterMap.mp hm
      exact apart (List.mem_filterMap.mpr ⟨e, List.mem_cons_of_mem _ he, q⟩)
    have S3 := J3.suite at3 dat3 na aL aF
    have walk : ∀ {hs' : List ExceptHandler} {l' : List Hd}, HdsAs X hs' l' → wMost X.K D l' cls d σ' H' → wpAny (model X.prog X.w) X.A (handleBy (.ref a) X.env hs') (SP X pins D) X.xe { s' with heap := h3 } := by
      intro hs' l' hk
      induction hk with
      | rest => exact fun z => False.elim z
      | @cons x n c i ts b₀ suite np pos' hds2 l2 hi hln hc hsu r ih =>
        intro wi
        obtain ⟨b, isB, yes, no⟩ := wi
        refine wpAny_handleBy_cons (codeAny_handlers_test ?_) (by intro q; cases q)
        have looks : PySem.W.Looks (model X.prog X.w) h3 (typeOf (.ref a)) cls := fun A Q E s k q => wpAny_typeOf_ref (k _ _ at3) (by rw [zn3.1]; exact q)
        have meets := PySem.W.exm_one (M := model X.prog X.w) J3.kIn looks isB
        have named : ∀ {Q E : Value → Shared → Prop}, Q c { s' with heap := h3 } → wpAny (model X.prog X.w) (X.A.mark (some (.ref a))) (eval (.Name x np) X.env) Q E { s' with heap := h3 } := fun {Q E} q => by
          obtain ⟨g, dbg, m | ⟨m, bv, nn⟩⟩ := hc
          · exact ld_glob (X := X.suite a ((a, o3) :: (X.pn ++ pins))) S3 g m q dbg
          · exact ld_blt (X := X.suite a ((a, o3) :: (X.pn ++ pins))) S3 g m bv q nn dbg
        refine named (meets.here ?_)
        cases b with
        | true =>
          refine codeAny_handlers_suite_as ?_
          refine HandSPX.lands_againZ fl3 fun h4 fl4 up4 => ?_
          have J4 : Inv X pins σ' H' { s' with heap := h4 } := J.landed nb fl4.1 ((up.trans up3).trans up4) os ag
          obtain ⟨o4, v4, at4, zn4, dat4⟩ := fl4.there
          have S4 := J4.suite at4 dat4 na aL aF
          refine store_ok (X := X.suite a ((a, o4) :: (X.pn ++ pins))) (v := .ref a) S4 hN hi (.inl hln) rfl (fun s5 S5 => ?_) (.inr hln)
          have gone : ∀ {s6 : Shared} {σ6 : L2.St} {H6 : Hp} {Q : Shared → Prop}, Inv (X.suite a ((a, o4) :: (X.pn ++ pins))) [] σ6 H6 s6 → (∀ s7, Inv X pins (σ6.set i none) H6 s7 → Q s7) →
              wpAny (model X.prog X.w) X.A (do bindName X.env n .none; unbindBehindTheSuite X.env n pos') (fun _ s7 => Q s7) X.xe s6 := fun S6 hq => gone_ok (S6.unsuite ok) hN hi hln hq
          refine wpAny_mono ((hsu a o4 cls d (X.pn ++ pins) zn4 ⟨_, dat4⟩).run [] s5 _ H' _ S5 (yes rfl a na)) (fun fl s6 sp => ?_) (fun _ _ z => False.elim z)
          cases fl with
          | ret u =>
            obtain ⟨v6, σ6, H6, S6, r6, q6⟩ := sp
            exact gone S6 fun s7 J7 => ⟨_, _, _, J7, r6, q6⟩
          | next =>
            obtain ⟨σ6, H6, S6, q6⟩ := sp
            exact gone S6 fun s7 J7 => ⟨_, _, J7, q6⟩
          | brk =>
            obtain ⟨σ6, H6, S6, q6⟩ := sp
            exact gone S6 fun s7 J7 => ⟨_, _, J7, q6⟩
          | cont =>
            obtain ⟨σ6, H6, S6, q6⟩ := sp
            exact gone S6 fun s7 J7 => ⟨_, _, J7, q6⟩
        | false =>
          show wpAny _ X.A (handleBy (.ref a) X.env hds2) _ _ _
          exact ih (no rfl)
    exact walk hh wish
  refine wpAny_Try_except (wpAny_mono ((hb (wMost X.K D l) (X.pn ++ pins) catch_ take PassesOwn.looking).run [] s σ H D (I.toTry _) h) (fun fl s1 sp => ?_) fun e s1 he => he)
  cases fl with
  | ret u =>
    obtain ⟨v, σ', H', J', r, q⟩ := sp
    exact ⟨v, σ', H', J'.ofTry ok, r, q⟩
  | next =>
    obtain ⟨σ', H', J', q⟩ := sp
    exact wpAny_execs_nil ⟨σ', H', J'.ofTry ok, q⟩
  | brk =>
    obtain ⟨σ', H', J', q⟩ := sp
    exact ⟨σ', H', J'.ofTry ok, q⟩
  | cont =>
    obtain ⟨σ', H', J', q⟩ := sp
    exact ⟨σ', H', J'.ofTry ok, q⟩
end
section
variable {K : PySem.W.Frag} {B : Hp} {O : List Addr} {I : List (Nat × Addr)} {σ : L2.St} {H H' : Hp} {env env' : Env} {v : V} {W : WN} {t ta tb te : TE} {f fa fb fe : EF} {cl : Nat → Addr}
/-- a class goes to a handler -/
def Goes (K : PySem.W.Frag) (cl : Nat → Addr) (i : Nat) (tx : Addr → Nat → TE) : List Hd → Nat → Prop
  | [], _ => False
  | h :: r, n => (PySem.W.exmOne K (.ref (cl n)) h.1 = some true ∧ h.2.1 = i ∧ ∀ (a : Addr) (D : Ends) (σ : L2.St) (H : Hp), tRet (tx a n) D σ H → h.2.2 a (.ref (cl n)) none D σ H) ∨ (PySem.W.exmOne K (.ref (cl n)) h.1 = some false ∧ Goes K cl i tx r n)
theorem wMost_of {D : Ends} {i n : Nat} {tx : Addr → Nat → TE} : ∀ {l : List Hd}, Goes K cl i tx l n →
    (∀ a, H a = none → tRet (tx a n) { nx := fun σ' H' => D.nx (σ'.set i none) H', rt := D.rt, bk := fun σ' H' => D.bk (σ'.set i none) H', ct := fun σ' H' => D.ct (σ'.set i none) H' } (σ.set i (some (.ref a))) H) → wMost K D l (.ref (cl n)) none σ H
  | [], h, _ => h.elim
  | h :: r, g, k => by
    rcases g with ⟨g1, g2, g3⟩ | ⟨g1, g2⟩
    · refine ⟨true, g1, fun _ a ha => ?_, fun z => nomatch z⟩
      rw [g2]
      exact g3 a _ _ _ (k a ha)
    · exact ⟨false, g1, (fun z => nomatch z), fun _ => wMost_of g2 k⟩
theorem ss_try_most {i : Nat} {ks : List Nat} {tb : L2.WX → TS} {tx : Addr → Nat → TE} {l : List Hd} {g : SFn} {h : Nat → EF}
    (hb : ∀ WX : L2.WX, SndS K (wn cl WX) (tb WX) g) (hin : ∀ n, n ∈ ks → Goes K cl i tx l n)
    (htx : ∀ n, n ∈ ks → ∀ (a : Addr) (σ : L2.St), σ[i]? = some (some (.ref a)) → SndAt K σ (tx a n) (h n)) :
    SndS K W (fun D σ H => tb (wMost K D l) D σ H) (fTry i ks g h) := by
  intro B O I σ H env o S e D k
  obtain ⟨o1, e1, e⟩ := bnd e
  refine hb (wMost K D l) B O I σ H env o1 S e1 D ?_
  cases o1 with
  | nx e2 => cases e; exact k
  | bk e2 => cases e; exact k
  | ct e2 => cases e; exact k
  | rt r e2 =>
    cases r with
    | val d => cases e; exact k
    | slot j => cases e; exact k
    | new ds => cases e; exact k
    | tw ds => cases e; exact k
    | ex n =>
      dsimp only at e
      split at e
      · rename_i hn
        obtain ⟨e3, e4, e⟩ := bnd e
        obtain ⟨⟨r5, e5⟩, e6, e⟩ := bnd e
        intro O' σ' H' s S'
        refine wMost_of (hin n hn) fun a ha => ?_
        have S2 := S'.drop (w := some (.ref a)) e4
        have hi : i < σ'.length := by
          rw [S'.len]
          exact (putS_of e4).2.1
        refine htx n hn a _ (List.getElem?_set_self hi) B O' I H' e3 r5 e5 S2 e6 _ fun v H2 P2 => ?_
        dsimp only at e
        split at e
        · exact False.elim P2
        · cases e
          exact OutOk.rt k s P2
      · cases e
/-- a call of a built-in thing with one argument, at given slots -/
theorem sndAt_b1 {r : List V → Hp → VK → Prop} {g : GB} (h1 : SndAt K σ te fe) (ho : CallG K r g) : SndAt K σ (tCB r (tCons te tNil)) (fB g (fCons fe fNil)) := by
  intro B O I H env rv env' S e Q q
  obtain ⟨⟨rs, env1⟩, e1, e⟩ := bnd e
  obtain ⟨x, ex, e⟩ := bnd e
  obtain ⟨z, ez, e⟩ := bnd e
  cases e
  obtain ⟨⟨r1, e2⟩, e3, e1⟩ := bnd e1
  have e4 : some (Dv.frz r1 :: [], e2) = some (rs, env1) := e1
  rw [Option.some.injEq, Prod.mk.injEq] at e4
  obtain ⟨e5, e6⟩ := e4
  subst e5 e6
  refine h1 B O I H env r1 _ S e3 _ fun v H1 P1 => ?_
  exact ho B O I σ H1 _ [v] _ x _ P1.frz.sta (.cons P1.frz .nil) ex ez Q q
end
section
variable {K : PySem.W.Frag} {W : WN} {te : TE} {fe : EF}
/-- x = f(..), own, where f may refuse -/
def fOwnX (i : Nat) (f : EF) : SFn := fun env => (f env).bind fun a => match a.1 with
  | .ex n => some (.rt (.ex n) a.2)
  | .new ds => (putS i (.o1 ds) a.2).bind fun e => some (.nx e)
  | _ => none
theorem ss_ownX {i : Nat} (h1 : SndX K W te fe) : SndS K W (tAsg te (gName i)) (fOwnX i fe) := by
  intro B O I σ H env o S e D k
  obtain ⟨⟨r1, env1⟩, e1, e⟩ := bnd e
  refine h1 B O I σ H env r1 env1 S e1 _ (fun v H1 P1 => ?_) fun n en H1 S1 => ?_
  · dsimp only at e
    split at e
    · exact False.elim P1
    · obtain ⟨env2, e2, e⟩ := bnd e
      cases e
      obtain ⟨O', s, S2⟩ := Sta.owned P1 e2
      exact k O' _ H1 s S2
    · cases e
  · subst en
    cases e
    exact k O σ H1 .refl S1
variable {e : Env} {env : Env} {PO : Out → Prop} {f : EF}
def KOwnX (i : Nat) (PO : Out → Prop) : RV × Env → Prop := fun a => match a.1 with
  | .ex n => PO (.rt (.ex n) a.2)
  | .new ds => Ok (putS i (.o1 ds) a.2) (KNx PO)
  | _ => False
theorem k_ownXe {i n : Nat} : KOwnX i PO (.ex n, e) ↔ PO (.rt (.ex n) e) := Iff.rfl
theorem k_ownXn {i : Nat} {ds : List D} : KOwnX i PO (.new ds, e) ↔ Ok (putS i (.o1 ds) e) (KNx PO) := Iff.rfl
theorem w_ownX {i : Nat} : Ok (fOwnX i f env) PO ↔ Ok (f env) (KOwnX i PO) := by
  refine ok_bind_iff fun ⟨r, e⟩ => ?_
  cases r with
  | ex n => exact ok_some (P := PO)
  | val d => exact ok_none (P := PO)
  | new ds => exact ok_bind_iff (P := PO) fun e => ok_some (P := PO)
  | tw ds => exact ok_none (P := PO)
  | slot i => exact ok_none (P := PO)
end
abbrev rInt1 : List V → Hp → VK → Prop := fun xs H Q => (∃ i, xs = [.int i] ∧ Q (.int i) H) ∨ ∃ k, xs = [.bl k] ∧ Q (.int (if k then 1 else 0)) H
end Dv

/-! # for x in own lists: x.append(..) -/
namespace Dv
open PySem L2
section
variable {K : PySem.W.Frag} {B : Hp} {O : List Addr} {I : List (Nat × Addr)} {σ : L2.St} {H H' : Hp} {env env' : Env} {v : V} {W : WN} {t ta tb te : TE}
/-- an expression that gives one thing and changes nothing -/
def SndP (K : PySem.W.Frag) (t : TE) (d : D) : Prop := ∀ (O : List Addr) (σ : L2.St) (H : Hp) (Q : VK), (∀ p, p ∈ O → ∃ o, H p = some o) → (∀ v H', Same H H' → Dq K (mi H' O) v d → Q v H') → t σ H Q
def SndPA (K : PySem.W.Frag) (t : TA) (ds : List D) : Prop := ∀ (O : List Addr) (σ : L2.St) (H : Hp) (Q : List V → Hp → Prop), (∀ p, p ∈ O → ∃ o, H p = some o) → (∀ vs H', Same H H' → DqA K (mi H' O) vs ds → Q vs H') → t σ H Q
theorem sp_int (i : Int) : SndP K (tC (.int i)) (.int i) := fun O σ H Q _ q => q _ H (Same.refl _) (.int i)
theorem sp_nil : SndPA K tNil [] := fun O σ H Q _ q => q [] H (Same.refl _) .nil
theorem sp_cons {t : TE} {r : TA} {d : D} {ds : List D} (h1 : SndP K t d) (h2 : SndPA K r ds) : SndPA K (tCons t r) (d :: ds) := fun O σ H Q dom q =>
  h1 O σ H _ dom fun v H1 s1 d1 => h2 O σ H1 _ (fun p hp => by
    obtain ⟨o, e⟩ := dom p hp
    exact ⟨o, s1 _ _ e⟩) fun vs H2 s2 d2 => q _ H2 (s1.trans s2) (.cons (Dq.mono (mi_mono s2) _ _ d1) d2)
theorem sp_tup {r : TA} {ds : List D} (hl : ds.length ≤ 10000000) (h : SndPA K r ds) : SndP K (tTup r) (.tup ds) := fun O σ H Q dom q =>
  h O σ H _ dom fun vs H1 s1 d1 => ⟨by rw [d1.length]; exact line_of hl, fun p hp => by
    have dom1 : ∀ p, p ∈ O → ∃ o, H1 p = some o := fun p hp => by
      obtain ⟨o, e⟩ := dom p hp
      exact ⟨o, s1 _ _ e⟩
    have sn : Same H1 (upd H1 p (.tup vs)) := same_new hp
    refine q _ _ (s1.trans sn) (.tup (.inl (.inl (mi_of (not_dom dom1 hp) upd_same))) (DqA.mono (mi_mono sn) _ _ d1))⟩
def fForApp (i j : Nat) (d : D) : SFn := fun env => match env[i]? with
  | some (.nw (.ls2 dss)) => if i ≠ j ∧ (dss.all fun ds => decide (ds.length ≤ 1000000)) = true then (putS j .no env).bind fun e => some (.nx (e.set i (.nw (.ls2 (dss.map fun ds => ds ++ [d]))))) else none
  | _ => none
theorem ls_adr {G : Hp} : ∀ qs : List Addr, DqA K G (qs.map V.ref) (qs.map D.adr)
  | [] => .nil
  | q :: qs => .cons (.adr q) (ls_adr qs)
theorem ss_forApp {i j : Nat} {d : D} (he : SndP K te d) : SndS K W (tFor (iList K (tVar i)) (gName j) (tDrop (tBM K "list" rAppend (tVar j) (tCons te tNil)))) (fForApp i j d) := by
  intro B O I σ H env o S e D k
  unfold fForApp at e
  split at e
  · rename_i dss hi
    split at e
    · rename_i hc
      obtain ⟨e1, e2, e⟩ := bnd e
      cases e
      obtain ⟨nij, hlen⟩ := hc
      obtain ⟨p, a1, ⟨qs, a2, ls⟩, a3, a4, a5, a6⟩ := S.nw i _ hi
      have lq := LsOk.len ls
      have hj := (putS_of e2).2.1
      have ee := (putS_of e2).2.2
      have li : i < env.length := (List.getElem?_eq_some_iff.mp hi).1
      have gi : e1[i]? = some (.nw (.ls2 dss)) := by
        rw [ee, List.getElem?_set_ne (Ne.symm nij)]
        exact hi
      have S1 : Sta K B O I (σ.set j σ[j]?.join) H e1 := S.drop e2
      have put2 : ∀ w : OV, putS j .no (e1.set i (.nw w)) = some (e1.set i (.nw w)) := fun w => by
        have lj : j < e1.length := by
          rw [ee, List.length_set]
          exact hj
        have gj : e1[j]? = some .no := by
          rw [ee]
          exact List.getElem?_set_self hj
        have gj2 : (e1.set i (SV.nw w))[j]? = some .no := by
          rw [List.getElem?_set_ne nij]
          exact gj
        unfold putS
        rw [if_neg]
        · congr 1
          apply List.ext_getElem?
          intro n
          by_cases c : n = j
          · subst c
            rw [List.getElem?_set_self (by rw [List.length_set]; exact lj), gj2]
          · rw [List.getElem?_set_ne (Ne.symm c)]
        · intro z
          rcases z with z | z
          · unfold isIo at z
            rw [gj2] at z
            cases z
          · rw [List.length_set] at z
            omega
      have set_same : ∀ w, e1[i]? = some (.nw w) → e1.set i (.nw w) = e1 := fun w hw => by
        apply List.ext_getElem?
        intro n
        by_cases c : n = i
        · subst c
          rw [List.getElem?_set_self (List.getElem?_eq_some_iff.mp hw).1, hw]
        · rw [List.getElem?_set_ne (Ne.symm c)]
      let st : Nat → List (List Dv.D) := fun n => (dss.take n).map (fun ds => ds ++ [d]) ++ dss.drop n
      have st_len : ∀ n, (st n).length = dss.length := fun n => by simp [st]; omega
      refine ⟨.ref p, a1, p, rfl, ⟨_, .inl (.inl a2)⟩, ?_⟩
      refine ⟨fun n m σ' H' => n + m = dss.length ∧ σ'[i]? = some (some (.ref p)) ∧ H' p = some (.lst (qs.map V.ref)) ∧ Sta K B O I σ' H' (e1.set i (.nw (.ls2 (st n)))) ∨ (n = 0 ∧ m = dss.length ∧ σ' = σ ∧ H' = H), ⟨dss.length, .inr ⟨rfl, rfl, rfl, rfl⟩⟩, fun n m σ' H' hw => ?_⟩
      have hw' : n + m = dss.length ∧ H' p = some (.lst (qs.map V.ref)) ∧ (σ'.set j (σ'[j]?.join))[i]? = some (some (.ref p)) ∧ ∀ w : Option V, Sta K B O I (σ'.set j w) H' (e1.set i (.nw (.ls2 (st n)))) := by
        rcases hw with ⟨z1, z2, z3, z4⟩ | ⟨z1, z2, z3, z4⟩
        · exact ⟨z1, z3, by rw [List.getElem?_set_ne (Ne.symm nij)]; exact z2, fun w => z4.drop (put2 _)⟩
        · subst z3 z4
          refine ⟨by omega, a2, by rw [List.getElem?_set_ne (Ne.symm nij)]; exact a1, fun w => ?_⟩
          have e0 : st n = dss := by
            subst z1
            simp [st]
          rw [e0, set_same _ gi]
          exact S.drop e2
      obtain ⟨nm, hp, hs, S2⟩ := hw'
      have hit : IterOk K (fun a => if a = p then H' p else none) (Itl K p) (qs.map Dv.D.adr) := iter_list (if_pos rfl |>.trans hp) (ls_adr qs)
      obtain ⟨i1, i2, i3⟩ := hit H' [] (fun a o h => by
        dsimp only at h
        split at h
        · rename_i c
          subst c
          exact mi_of (fun z => nomatch z) h
        · cases h) (fun a ha => nomatch ha)
      rw [List.length_map, lq] at i1 i2
      cases m with
      | zero =>
        have en : n = dss.length := by omega
        subst en
        refine .inl ⟨i2, ?_⟩
        have ef : st dss.length = dss.map fun ds => ds ++ [d] := by
          show (dss.take dss.length).map _ ++ dss.drop dss.length = _
          rw [List.take_length, List.drop_length, List.append_nil]
        have S3 := S2 (σ'[j]?.join)
        rw [ef] at S3
        have es : σ'.set j (σ'[j]?.join) = σ' := by
          apply List.ext_getElem?
          intro n
          by_cases c : n = j
          · subst c
            have hl : n < σ'.length := by
              have := S3.len
              rw [List.length_set, List.length_set, ee, List.length_set] at this
              omega
            rw [List.getElem?_set_self hl, List.getElem?_eq_getElem hl]
            rfl
          · rw [List.getElem?_set_ne (Ne.symm c)]
        rw [es] at S3
        exact k O σ' H' .refl S3
      | succ m =>
        have hn : n < dss.length := by omega
        refine .inr ⟨i1 n hn, fun σ3 H3 => σ3[i]? = some (some (.ref p)) ∧ H3 p = some (.lst (qs.map V.ref)) ∧ Sta K B O I σ3 H3 (e1.set i (.nw (.ls2 (st (n + 1))))), fun σ3 H3 ⟨y1, y2, y3⟩ => ⟨m, by omega, .inl ⟨by omega, y1, y2, y3⟩⟩, fun x H3 hy => ?_⟩
        have hq : n < qs.length := by omega
        obtain ⟨sm, dx⟩ := i3 n (.adr qs[n]) x H3 (by rw [List.getElem?_map, List.getElem?_eq_getElem hq]; rfl) hy
        cases dx
        have S3 := (S2 (some (.ref qs[n]))).grow sm
        have li1 : i < (e1.set i (SV.nw (.ls2 (st n)))).length := by
          rw [List.length_set, ee, List.length_set]
          exact li
        have gi3 : (e1.set i (SV.nw (.ls2 (st n))))[i]? = some (.nw (.ls2 (st n))) := by
          rw [List.getElem?_set_self]
          rw [List.length_set] at li1
          exact li1
        have gd : (st n)[n]? = some dss[n] := by
          simp only [st]
          rw [List.getElem?_append_right (by simp; omega)]
          simp [Nat.min_eq_left (Nat.le_of_lt hn), List.getElem?_eq_getElem hn]
        have jl : j < σ'.length := by
          have := (S2 none).len
          rw [List.length_set, List.length_set, ee, List.length_set] at this
          omega
        refine ⟨.ref qs[n], List.getElem?_set_self jl, ?_⟩
        obtain ⟨p', qs', q, xs, s1, hp', g1, g2, g3, up⟩ := S3.up2 (es := dss[n] ++ [d]) gi3 gd
        have hsi : (σ'.set j (some (V.ref qs[n])))[i]? = some (some (.ref p)) := by
          rw [List.getElem?_set_ne (Ne.symm nij)]
          rw [List.getElem?_set_ne (Ne.symm nij)] at hs
          exact hs
        rw [hsi] at s1
        cases s1
        have hp3 := sm _ _ hp
        rw [hp3] at hp'
        have eqs : qs' = qs := by
          have : qs.map V.ref = qs'.map V.ref := by
            injection hp' with hp'
            injection hp'
          exact (List.map_inj_right (fun a b h => by injection h)).mp this.symm
        subst eqs
        rw [List.getElem?_eq_getElem hq] at g1
        cases g1
        refine ⟨tyL g2, ?_⟩
        refine he O _ H3 _ S3.dom fun y H4 s4 dy => ?_
        have S4 := S3.grow s4
        obtain ⟨p'', qs'', q'', xs'', s1', hp'', g1', g2', g3', up'⟩ := S4.up2 (es := dss[n] ++ [d]) gi3 gd
        rw [hsi] at s1'
        cases s1'
        have hp4 := s4 _ _ hp3
        rw [hp4] at hp''
        have eqs : qs'' = qs' := by
          have : qs'.map V.ref = qs''.map V.ref := by
            injection hp'' with hp''
            injection hp''
          exact (List.map_inj_right (fun a b h => by injection h)).mp this.symm
        subst eqs
        rw [List.getElem?_eq_getElem hq] at g1'
        cases g1'
        have ln : dss[n].length ≤ 1000000 := by
          have := List.all_eq_true.mp hlen _ (List.getElem_mem hn)
          simpa using this
        refine ⟨_, xs'', y, rfl, rfl, g2', by rw [g3'.length]; exact line_lt (by omega), ?_⟩
        have S5 := up' (xs'' ++ [y]) (g3'.append (.cons dy .nil))
        have est : (st n).set n (dss[n] ++ [d]) = st (n + 1) := by
          apply List.ext_getElem?
          intro l
          simp only [st]
          by_cases c : l = n
          · subst c
            rw [List.getElem?_set_self (by simp; omega)]
            rw [List.getElem?_append_left (by simp; omega), List.getElem?_map, List.getElem?_take_of_lt (by omega), List.getElem?_eq_getElem hn]
            rfl
          · rw [List.getElem?_set_ne (Ne.symm c)]
            by_cases c2 : l < n
            · rw [List.getElem?_append_left (by simp; omega), List.getElem?_append_left (by simp; omega), List.getElem?_map, List.getElem?_map, List.getElem?_take_of_lt (by omega), List.getElem?_take_of_lt (by omega)]
            · rw [List.getElem?_append_right (by simp; omega), List.getElem?_append_right (by simp; omega), List.getElem?_drop, List.getElem?_drop]
              simp only [List.length_map, List.length_take]
              congr 1
              omega
        rw [List.set_set, est] at S5
        have np : p ≠ qs''[n] := fun z => by
          obtain ⟨p0, b1, ⟨qs0, b2, _⟩, b3, _⟩ := S4.nw i _ gi3
          rw [hsi] at b1
          cases b1
          rw [hp4] at b2
          have ads : adsOf H4 p (.ls2 (st n)) = p :: qs'' := by
            unfold adsOf
            rw [hp4]
            show p :: (qs''.map V.ref).filterMap refV = _
            rw [refV_map]
          rw [ads] at b3
          exact (List.nodup_cons.mp b3).1 (by rw [z]; exact List.getElem_mem hq)
        exact ⟨hsi, by rw [upd_ne np]; exact hp4, S5⟩
    · cases e
  · cases e
/-- an own list is let go: it stays from now on -/
theorem Sta.freeze {i : Nat} {ds : List D} (S : Sta K B O I σ H env) (hi : env[i]? = some (.o1 ds)) : ∃ O', Sub B I O O' ∧ Sta K B O' I σ H (env.set i (.fz (.lst ds))) := by
  obtain ⟨p, xs, h1, h2, h3, h4, h5⟩ := S.ow i ds (.inl hi)
  have li : i < env.length := (List.getElem?_eq_some_iff.mp hi).1
  have other : ∀ j es q, OwnAt env j es → j ≠ i → σ[j]? = some (some (.ref q)) → q ≠ p := fun j es q hj c e z => by
    subst z
    exact c (S.sep j i es ds q hj (.inl hi) e h1)
  have mem : ∀ a, a ∈ O.filter (fun a => a != p) ↔ a ∈ O ∧ a ≠ p := fun a => by
    rw [List.mem_filter]
    simp
  have sub : ∀ a, a ∈ O.filter (fun a => a != p) → a ∈ O := fun a ha => ((mem a).mp ha).1
  have sm : Same (mi H O) (mi H (O.filter fun a => a != p)) := mi_sub sub
  have get : ∀ j, j ≠ i → (env.set i (SV.fz (.lst ds)))[j]? = env[j]? := fun j c => List.getElem?_set_ne (Ne.symm c)
  have geti : (env.set i (SV.fz (.lst ds)))[i]? = some (.fz (.lst ds)) := List.getElem?_set_self li
  have own : ∀ j es, OwnAt (env.set i (SV.fz (.lst ds))) j es → j ≠ i ∧ OwnAt env j es := fun j es z => by
    by_cases c : j = i
    · subst c
      unfold OwnAt at z
      rw [geti] at z
      rcases z with z | z <;> cases z
    · refine ⟨c, ?_⟩
      unfold OwnAt at z ⊢
      rw [get j c] at z
      exact z
  refine ⟨O.filter (fun a => a != p), ⟨fun a ha hb => (mem a).mpr ⟨ha, fun z => ?_⟩, fun a ha => .inl (sub a ha)⟩, ?_⟩
  · subst z
    rcases hb with hb | hb
    · exact hb h5
    · obtain ⟨⟨j, a⟩, hm, rfl⟩ := List.mem_map.mp hb
      obtain ⟨k1, es, k2⟩ := S.pin j a hm
      have c : j ≠ i := fun z => by
        subst z
        rw [hi] at k2
        cases k2
      exact other j es a (.inr k2) c k1 rfl
  · refine ⟨by rw [List.length_set]; exact S.len, fun j d hj => ?_, fun j es hj => ?_, fun j l es gs q hj hl e1 e2 => S.sep j l es gs q (own j es hj).2 (own l gs hl).2 e1 e2, S.base, fun q hq => S.dom q (sub q hq), fun j q hj => ?_, ?_, fun q ys hq => S.nt q ys (sub q hq)⟩
    · by_cases c : j = i
      · subst c
        rw [geti] at hj
        cases hj
        exact ⟨_, h1, .lst (mi_of (fun z => ((mem p).mp z).2 rfl) h3) (DqA.mono sm _ _ h4)⟩
      · rw [get j c] at hj
        obtain ⟨v, k1, k2⟩ := S.fz j d hj
        exact ⟨v, k1, Dq.mono sm _ _ k2⟩
    · obtain ⟨c, hj⟩ := own j es hj
      obtain ⟨q, ys, k1, k2, k3, k4, k5⟩ := S.ow j es hj
      exact ⟨q, ys, k1, (mem q).mpr ⟨k2, other j es q hj c k1⟩, k3, DqA.mono sm _ _ k4, k5⟩
    · obtain ⟨k1, es, k2⟩ := S.pin j q hj
      have c : j ≠ i := fun z => by
        subst z
        rw [hi] at k2
        cases k2
      exact ⟨k1, es, by rw [get j c]; exact k2⟩
    · refine NwOk.go S.nw (fun j w hj => ?_) (fun j es a hj e => .inl ⟨es, (own j es hj).2, e⟩) (fun a k1 k2 k3 k4 => ⟨(mem a).mpr ⟨k1, fun z => ?_⟩, k2, rfl⟩) sm S.dom
      · have c : j ≠ i := fun z => by
          subst z
          rw [geti] at hj
          cases hj
        rw [get j c] at hj
        exact ⟨hj, rfl⟩
      · subst z
        exact k4 i ds (.inl hi) h1
def fFrz (i : Nat) (g : SFn) : SFn := fun env => match env[i]? with
  | some (.o1 ds) => g (env.set i (.fz (.lst ds)))
  | _ => none
theorem ss_frz {i : Nat} {t : TS} {g : SFn} (h : SndS K W t g) : SndS K W t (fFrz i g) := by
  intro B O I σ H env o S e D k
  unfold fFrz at e
  split at e
  · rename_i ds hi
    obtain ⟨O', s, S'⟩ := S.freeze hi
    exact h B O' I σ H _ o S' e D (k.sub s)
  · cases e
variable {PO : Out → Prop}
def QForApp (i j : Nat) (d : D) (env : Env) (PO : Out → Prop) : Option SV → Prop
  | some (.nw (.ls2 dss)) => (i ≠ j ∧ (dss.all fun ds => decide (ds.length ≤ 1000000)) = true) ∧ Ok (putS j .no env) (fun e => PO (.nx (e.set i (.nw (.ls2 (dss.map fun ds => ds ++ [d]))))))
  | _ => False
theorem q_forApp {i j : Nat} {d : D} {dss : List (List D)} : QForApp i j d env PO (some (.nw (.ls2 dss))) ↔ (i ≠ j ∧ (dss.all fun ds => decide (ds.length ≤ 1000000)) = true) ∧ Ok (putS j .no env) (fun e => PO (.nx (e.set i (.nw (.ls2 (dss.map fun ds => ds ++ [d])))))) := Iff.rfl
theorem w_forApp {i j : Nat} {d : D} : Ok (fForApp i j d env) PO ↔ QForApp i j d env PO env[i]? := by
  unfold fForApp
  cases env[i]? with
  | none => exact ⟨fun h => (ok_none.mp h).elim, fun h => h.elim⟩
  | some s =>
    cases s with
    | nw w =>
      cases w with
      | ls2 dss =>
        show Ok (if _ then _ else none) PO ↔ _
        rw [ok_guard]
        exact and_congr_right fun _ => ok_bind_iff fun e => ok_some
      | _ => exact ⟨fun h => (ok_none.mp h).elim, fun h => h.elim⟩
    | _ => exact ⟨fun h => (ok_none.mp h).elim, fun h => h.elim⟩
def QFrz (i : Nat) (g : SFn) (env : Env) (PO : Out → Prop) : Option SV → Prop
  | some (.o1 ds) => Ok (g (env.set i (.fz (.lst ds)))) PO
  | _ => False
theorem q_frz {i : Nat} {g : SFn} {ds : List D} : QFrz i g env PO (some (.o1 ds)) ↔ Ok (g (env.set i (.fz (.lst ds)))) PO := Iff.rfl
theorem w_frz {i : Nat} {g : SFn} : Ok (fFrz i g env) PO ↔ QFrz i g env PO env[i]? := by
  unfold fFrz
  cases env[i]? with
  | none => exact ⟨fun h => (ok_none.mp h).elim, fun h => h.elim⟩
  | some s =>
    cases s with
    | o1 ds => exact Iff.rfl
    | _ => exact ⟨fun h => (ok_none.mp h).elim, fun h => h.elim⟩
end
end Dv

/-! # dicts that are let go: they stay from then on -/
namespace Dv
open PySem L2
section
variable {K : PySem.W.Frag} {B : Hp} {O : List Addr} {I : List (Nat × Addr)} {σ : L2.St} {H H' G : Hp} {env env' : Env} {v : V} {t ta tb te td tk : TE} {f fa fb fe fd fk : EF} {W : WN}
theorem DqK.parts : ∀ {kl : List (List L2.Key × V)} {kvs : List (List Int × D)}, DqK K G kl kvs → kl.map (·.1) = (kvs.map (·.1)).map (fun k => k.map Sum.inl) ∧ DqA K G (kl.map (·.2)) (kvs.map (·.2))
  | [], [], _ => ⟨rfl, .nil⟩
  | [], _ :: _, h => h.elim
  | _ :: _, [], h => h.elim
  | p :: ks, q :: kvs, h => by
    obtain ⟨h1, h2, h3⟩ := h
    obtain ⟨a, b⟩ := DqK.parts h3
    simp only [List.map_cons]
    exact ⟨by rw [h1, a], .cons h2 b⟩
theorem DqK.back : ∀ {kl : List (List L2.Key × V)} {ks : List (List Int)} {ds : List D}, kl.map (·.1) = ks.map (fun k => k.map Sum.inl) → DqA K G (kl.map (·.2)) ds → DqK K G kl (ks.zip ds)
  | [], [], _, _, h => by cases h; exact trivial
  | [], _ :: _, _, h, _ => by cases h
  | _ :: _, [], _, h, _ => by cases h
  | p :: kl, k :: ks, [], _, h => by cases h
  | p :: kl, k :: ks, d :: ds, e, h => by
    simp only [List.map_cons, List.cons.injEq] at e
    simp only [List.map_cons] at h
    cases h with
    | cons h1 h2 => exact ⟨e.1, h1, DqK.back e.2 h2⟩
/-- an own dict is let go: it stays from now on -/
theorem Sta.freezeD {i : Nat} {kvs : List (List Int × D)} (S : Sta K B O I σ H env) (hi : env[i]? = some (.nw (.dct kvs))) : ∃ O', Sub B I O O' ∧ Sta K B O' I σ H (env.set i (.fz (.dct (kvs.map (·.1)) (kvs.map (·.2))))) := by
  obtain ⟨p, h1, ⟨ks, h3, h4⟩, _, h5, h6, h7⟩ := S.nw i _ hi
  have pO := h5 p adsOf_self
  have li : i < env.length := (List.getElem?_eq_some_iff.mp hi).1
  have other : ∀ j es q, OwnAt env j es → σ[j]? = some (some (.ref q)) → q ≠ p := fun j es q hj e z => by
    subst z
    exact h6 j es q hj e adsOf_self
  have mem : ∀ a, a ∈ O.filter (fun a => a != p) ↔ a ∈ O ∧ a ≠ p := fun a => by
    rw [List.mem_filter]
    simp
  have sub : ∀ a, a ∈ O.filter (fun a => a != p) → a ∈ O := fun a ha => ((mem a).mp ha).1
  have sm : Same (mi H O) (mi H (O.filter fun a => a != p)) := mi_sub sub
  have get : ∀ j, j ≠ i → (env.set i (SV.fz (.dct (kvs.map (·.1)) (kvs.map (·.2)))))[j]? = env[j]? := fun j c => List.getElem?_set_ne (Ne.symm c)
  have geti : (env.set i (SV.fz (.dct (kvs.map (·.1)) (kvs.map (·.2)))))[i]? = some (.fz (.dct (kvs.map (·.1)) (kvs.map (·.2)))) := List.getElem?_set_self li
  have own : ∀ j es, OwnAt (env.set i (SV.fz (.dct (kvs.map (·.1)) (kvs.map (·.2))))) j es → j ≠ i ∧ OwnAt env j es := fun j es z => by
    by_cases c : j = i
    · subst c
      unfold OwnAt at z
      rw [geti] at z
      rcases z with z | z <;> cases z
    · refine ⟨c, ?_⟩
      unfold OwnAt at z ⊢
      rw [get j c] at z
      exact z
  refine ⟨O.filter (fun a => a != p), ⟨fun a ha hb => (mem a).mpr ⟨ha, fun z => ?_⟩, fun a ha => .inl (sub a ha)⟩, ?_⟩
  · subst z
    rcases hb with hb | hb
    · exact hb pO.2
    · obtain ⟨⟨j, a⟩, hm, rfl⟩ := List.mem_map.mp hb
      obtain ⟨k1, es, k2⟩ := S.pin j a hm
      exact other j es a (.inr k2) k1 rfl
  · refine ⟨by rw [List.length_set]; exact S.len, fun j d hj => ?_, fun j es hj => ?_, fun j l es gs q hj hl e1 e2 => S.sep j l es gs q (own j es hj).2 (own l gs hl).2 e1 e2, S.base, fun q hq => S.dom q (sub q hq), fun j q hj => ?_, fun j w hj => ?_, fun q ys hq => S.nt q ys (sub q hq)⟩
    · by_cases c : j = i
      · subst c
        rw [geti] at hj
        cases hj
        obtain ⟨y1, y2⟩ := (h4.mono sm).parts
        exact ⟨_, h1, .dct (.inl (mi_of (fun z => ((mem p).mp z).2 rfl) h3)) y1 y2⟩
      · rw [get j c] at hj
        obtain ⟨v, k1, k2⟩ := S.fz j d hj
        exact ⟨v, k1, Dq.mono sm _ _ k2⟩
    · obtain ⟨c, hj⟩ := own j es hj
      obtain ⟨q, ys, k1, k2, k3, k4, k5⟩ := S.ow j es hj
      exact ⟨q, ys, k1, (mem q).mpr ⟨k2, other j es q hj k1⟩, k3, DqA.mono sm _ _ k4, k5⟩
    · obtain ⟨k1, es, k2⟩ := S.pin j q hj
      have c : j ≠ i := fun z => by
        subst z
        rw [hi] at k2
        cases k2
      exact ⟨k1, es, by rw [get j c]; exact k2⟩
    · have c : j ≠ i := fun z => by
        subst z
        rw [geti] at hj
        cases hj
      rw [get j c] at hj
      obtain ⟨q, b1, b2, b3, b4, b5, b6⟩ := S.nw j w hj
      have np : ∀ a, a ∈ adsOf H q w → a ≠ p := fun a ha z => by
        subst z
        exact b6 i _ a (Ne.symm c) hi h1 a ha adsOf_self
      refine ⟨q, b1, b2.mono sm fun a ha => rfl, b3, fun a ha => ⟨(mem a).mpr ⟨(b4 a ha).1, np a ha⟩, (b4 a ha).2⟩, fun l ds a hl e => b5 l ds a (own l ds hl).2 e, fun l w' r hl hw e a ha => ?_⟩
      have cl : l ≠ i := fun z => by
        subst z
        rw [geti] at hw
        cases hw
      rw [get l cl] at hw
      exact b6 l w' r hl hw e a ha
def fFrzD (i : Nat) (g : SFn) : SFn := fun env => match env[i]? with
  | some (.nw (.dct kvs)) => g (env.set i (.fz (.dct (kvs.map (·.1)) (kvs.map (·.2)))))
  | _ => none
theorem ss_frzD {i : Nat} {t : TS} {g : SFn} (h : SndS K W t g) : SndS K W t (fFrzD i g) := by
  intro B O I σ H env o S e D k
  unfold fFrzD at e
  split at e
  · rename_i kvs hi
    obtain ⟨O', s, S'⟩ := S.freezeD hi
    exact h B O' I σ H _ o S' e D (k.sub s)
  · cases e
/-! what is read of such a dict -/
theorem rd_mi {a : Addr} {u : HO} (h : Rd (mi H O) a u) : Rd H a u := by
  rcases h with h | ⟨o, h⟩
  · exact .inl (mi_some h).2
  · exact .inr ⟨o, (mi_some h).2⟩
theorem Post.dict {r : RV} {ks : List (List Int)} {ds : List D} (h : Post K B O I σ H env v r) (e : deref env r = some (.dct ks ds)) : ∃ p kl, v = .ref p ∧ Rd H p (.dT kl) ∧ DqK K (mi H O) kl (ks.zip ds) := by
  cases r with
  | ex n => exact False.elim h
  | val d' =>
    cases e
    obtain ⟨S, h⟩ := h
    cases h with
    | dct h1 h2 h3 => exact ⟨_, _, rfl, rd_mi h1, DqK.back h2 h3⟩
  | slot i =>
    obtain ⟨es, e1, ho⟩ := ownAt_of e
    cases e1
  | new es => cases e
  | tw es => cases e
def rDGet : R2 := fun x y H Q => ∃ a v, x = .ref a ∧ DGet H a y (some v) ∧ Q v H
def rDIn : R2 := fun y x H Q => ∃ a o, x = .ref a ∧ DGet H a y o ∧ Q (.bl o.isSome) H
def rDNotIn : R2 := fun y x H Q => ∃ a o, x = .ref a ∧ DGet H a y o ∧ Q (.bl (!o.isSome)) H
def gDIx : G2
  | .dct ks ds, e => (keyD e).bind fun k => (kVal (ks.zip ds) k).bind fun x => some (.val x)
  | _, _ => none
def gDIn : G2
  | e, .dct ks ds => (keyD e).bind fun k => some (.val (.bl (kVal (ks.zip ds) k).isSome))
  | _, _ => none
def gDNotIn : G2
  | e, .dct ks ds => (keyD e).bind fun k => some (.val (.bl (!(kVal (ks.zip ds) k).isSome)))
  | _, _ => none
theorem op2_dix : Op2 K rDGet gDIx := by
  intro B O I σ H env x y ra rb d e z P1 P2 e1 e2 ez Q q
  unfold gDIx at ez
  split at ez
  · rename_i ks ds
    obtain ⟨k, a1, ez⟩ := bnd ez
    obtain ⟨w, a2, ez⟩ := bnd ez
    cases ez
    obtain ⟨p, kl, rfl, hp, hd⟩ := P1.dict e1
    obtain ⟨b, rfl, hb⟩ := keyD_of (P2.read e2) a1
    rcases hd.val k with ⟨_, z⟩ | ⟨v, d', z1, z2, z3⟩
    · rw [z] at a2
      cases a2
    · rw [z2] at a2
      cases a2
      exact ⟨p, v, rfl, by rw [← z1]; exact .inr ⟨kl, _, _, hp, rfl, hb, rfl⟩, q v H ⟨P1.sta, z3⟩⟩
  · cases ez
theorem op2_din : Op2 K rDIn gDIn := by
  intro B O I σ H env x y ra rb d e z P1 P2 e1 e2 ez Q q
  unfold gDIn at ez
  split at ez
  · rename_i e' ks ds
    obtain ⟨k, a1, ez⟩ := bnd ez
    cases ez
    obtain ⟨p, kl, rfl, hp, hd⟩ := P2.dict e2
    obtain ⟨b, rfl, hb⟩ := keyD_of (P1.read e1) a1
    refine ⟨p, _, rfl, .inr ⟨kl, _, _, hp, rfl, hb, rfl⟩, q _ H ⟨P1.sta, ?_⟩⟩
    rcases hd.val k with ⟨z1, z2⟩ | ⟨v, d', z1, z2, z3⟩
    · rw [z1, z2]
      exact .bl _
    · rw [z1, z2]
      exact .bl _
  · cases ez
theorem op2_dnotin : Op2 K rDNotIn gDNotIn := by
  intro B O I σ H env x y ra rb d e z P1 P2 e1 e2 ez Q q
  unfold gDNotIn at ez
  split at ez
  · rename_i e' ks ds
    obtain ⟨k, a1, ez⟩ := bnd ez
    cases ez
    obtain ⟨p, kl, rfl, hp, hd⟩ := P2.dict e2
    obtain ⟨b, rfl, hb⟩ := keyD_of (P1.read e1) a1
    refine ⟨p, _, rfl, .inr ⟨kl, _, _, hp, rfl, hb, rfl⟩, q _ H ⟨P1.sta, ?_⟩⟩
    rcases hd.val k with ⟨z1, z2⟩ | ⟨v, d', z1, z2, z3⟩
    · rw [z1, z2]
      exact .bl _
    · rw [z1, z2]
      exact .bl _
  · cases ez
theorem snd_dgetF (h1 : Snd K td fd) (h2 : Snd K tk fk) : Snd K (tDGet td tk) (f2 gDIx fd fk) := snd_2 (r := rDGet) h1 h2 op2_dix
theorem snd_dinF (h1 : Snd K tk fk) (h2 : Snd K td fd) : Snd K (tDIn tk td) (f2 gDIn fk fd) := snd_2 (r := rDIn) h1 h2 op2_din
theorem snd_dnotinF (h1 : Snd K tk fk) (h2 : Snd K td fd) : Snd K (tDNotIn tk td) (f2 gDNotIn fk fd) := snd_2 (r := rDNotIn) h1 h2 op2_dnotin
/-! [k for k in d if k in e] -/
theorem dqa_ints : ∀ k : List Int, DqA K G (k.map V.int) (k.map D.int)
  | [] => .nil
  | x :: k => .cons (.int x) (dqa_ints k)
def keepK (ks : List (List Int)) (kvs : List (List Int × D)) : List D := (ks.filter fun k => (kVal kvs k).isSome).map fun k => D.nt (k.map D.int)
theorem keepK_len (kvs : List (List Int × D)) (ks : List (List Int)) : (keepK ks kvs).length ≤ ks.length := by
  unfold keepK
  rw [List.length_map]
  exact List.length_filter_le _ _
def fKeysIn (i j k : Nat) : EF := fun env => match env[i]?, env[j]? with
  | some (.fz (.dct ks ds)), some (.fz (.dct ks2 ds2)) => if j ≠ k ∧ k < env.length ∧ ks.length ≤ 1000000 then some (.new (keepK ks (ks2.zip ds2)), env) else none
  | _, _ => none
theorem keysIn_core {i j k : Nat} {d d' : Addr} {od : Obj} {kl kl' : List (List L2.Key × V)} {ks ks2 : List (List Int)} {ds2 : List D} {H0 : Hp} {Q : VK} (S : Sta K B O I σ H env) (c1 : j ≠ k) (c2 : k < env.length) (c3 : ks.length ≤ 1000000)
    (s1 : σ[i]? = some (some (.ref d))) (s2 : σ[j]? = some (some (.ref d'))) (g2 : kl.map (·.1) = ks.map (fun k => k.map Sum.inl)) (g2' : kl'.map (·.1) = ks2.map (fun k => k.map Sum.inl)) (g3' : DqA K (mi H O) (kl'.map (·.2)) ds2) (hd0 : H0 d = some (.frz od (.dT kl))) (off : ∀ a, a ≠ d → H0 a = H a) (hd' : Rd H0 d' (.dT kl'))
    (fin : ∀ L acc, H0 L = none → DqA K (mi H O) acc (keepK ks (ks2.zip ds2)) → Q (.ref L) (upd H0 L (.lst acc))) : (tLc (iKeys (tVar i)) (gName k) (tB (tDIn (tVar k) (tVar j))) (tVar k) [k]) σ H0 Q := by
      have lk : kl.length = ks.length := by
        have := congrArg List.length g2
        simpa using this
      refine ⟨.ref d, s1, d, od, rfl, .inr ⟨kl, hd0, fun L hL => ?_⟩⟩
      have Ld : L ≠ d := fun z => by
        rw [z, hd0] at hL
        cases hL
      refine ⟨fun n m H' => ∃ acc, H' = upd H0 L (.lst acc) ∧ DqA K (mi H O) acc (keepK (ks.take n) (ks2.zip ds2)) ∧ n + m = kl.length, ⟨kl.length, [], rfl, .nil, by omega⟩, fun n m H' hW => ?_⟩
      obtain ⟨acc, eH, hacc, em⟩ := hW
      subst eH
      have hfr : upd H0 L (.lst acc) d = some (.frz od (.dT kl)) := by
        rw [upd_ne (Ne.symm Ld)]
        exact hd0
      cases m with
      | zero =>
        refine .inl ⟨⟨hfr, by omega⟩, ?_⟩
        rw [List.take_of_length_le (by omega)] at hacc
        exact fin L acc hL hacc
      | succ m =>
        refine .inr ⟨⟨hfr, by omega⟩, fun H'' => ∃ acc', H'' = upd H0 L (.lst acc') ∧ DqA K (mi H O) acc' (keepK (ks.take (n + 1)) (ks2.zip ds2)), fun H'' hN => ?_, fun x H'' y => ?_⟩
        · obtain ⟨acc', y1, y2⟩ := hN
          exact ⟨m, by omega, acc', y1, y2, by omega⟩
        · obtain ⟨rfl, kk, vv, qa, y1, rfl, y3⟩ := y
          have qL : qa ≠ L := fun z => by
            rw [z, upd_same] at y3
            cases y3
          have qd : qa ≠ d := fun z => by
            rw [z, hfr] at y3
            cases y3
          have hq : H0 qa = some (.tup (kk.map kV)) := by
            rw [upd_ne qL] at y3
            exact y3
          have hq1 : H qa = some (.tup (kk.map kV)) := by
            rw [← off qa qd]
            exact hq
          have qO : qa ∉ O := fun z => S.nt qa _ z hq1
          obtain ⟨kn, hkn, ek⟩ : ∃ kn, ks[n]? = some kn ∧ kk = keyI kn := by
            have := congrArg (fun l => l[n]?) g2
            rw [List.getElem?_map, List.getElem?_map, y1] at this
            cases hk : ks[n]? with
            | none => rw [hk] at this; cases this
            | some kn =>
              rw [hk] at this
              exact ⟨kn, rfl, Option.some.inj this⟩
          subst ek
          have ls : k < σ.length := by rw [S.len]; exact c2
          have l1 : k < (L2.wipe σ [k]).length := by rw [L2.wipe_length]; exact ls
          have gk : ((L2.wipe σ [k]).set k (some (V.ref qa)))[k]? = some (some (V.ref qa)) := List.getElem?_set_self l1
          have gj : ((L2.wipe σ [k]).set k (some (V.ref qa)))[j]? = some (some (V.ref d')) := by
            rw [List.getElem?_set_ne (Ne.symm c1)]
            rw [Dv.wipe_get (fun z => c1 (List.mem_singleton.mp z))]
            exact s2
          have rd : Rd (upd H0 L (.lst acc)) d' (.dT kl') := by
            have cL : d' ≠ L := fun z => by
              rcases hd' with y | ⟨o, y⟩ <;> rw [z, hL] at y <;> cases y
            rcases hd' with y | ⟨o, y⟩
            · exact .inl (by rw [upd_ne cL]; exact y)
            · exact .inr ⟨o, by rw [upd_ne cL]; exact y⟩
          have tk : ks.take (n + 1) = ks.take n ++ [kn] := by
            rw [List.take_succ, hkn]
            rfl
          have same : (valV kl' (keyI kn)).isSome = (kVal (ks2.zip ds2) kn).isSome := by
            rcases (DqK.back g2' g3').val kn with ⟨z1, z2⟩ | ⟨v, d'', z1, z2, z3⟩ <;> rw [z1, z2] <;> rfl
          refine ⟨by rw [Dv.wipe_set List.mem_cons_self, Dv.wipe_idem], ?_⟩
          refine ⟨.ref qa, gk, .ref d', gj, d', valV kl' (keyI kn), rfl, .inr ⟨kl', keyI kn, qa, rd, rfl, y3, rfl⟩, _, rfl, ?_⟩
          rw [same]
          cases hs : (kVal (ks2.zip ds2) kn).isSome with
          | false =>
            rw [if_neg (by decide)]
            refine ⟨acc, rfl, ?_⟩
            have : keepK (ks.take (n + 1)) (ks2.zip ds2) = keepK (ks.take n) (ks2.zip ds2) := by
              unfold keepK
              rw [tk, List.filter_append]
              simp [hs]
            rw [this]
            exact hacc
          | true =>
            rw [if_pos rfl]
            have la : acc.length ≤ 1000000 := by
              rw [hacc.length]
              have h1 := keepK_len (ks2.zip ds2) (ks.take n)
              rw [List.length_take] at h1
              omega
            refine ⟨.ref qa, gk, acc, upd_same, line_lt (by omega), acc ++ [.ref qa], ?_, ?_⟩
            · funext a
              by_cases ca : a = L
              · subst ca
                rw [upd_same, upd_same]
              · rw [upd_ne ca, upd_ne ca, upd_ne ca]
            · have : keepK (ks.take (n + 1)) (ks2.zip ds2) = keepK (ks.take n) (ks2.zip ds2) ++ [D.nt (kn.map D.int)] := by
                unfold keepK
                rw [tk, List.filter_append]
                simp [hs]
              rw [this]
              refine DqA.append hacc (.cons (.nt (mi_of qO ?_) (dqa_ints kn)) .nil)
              rw [hq1, keyI_kV]
def tLockOrE (t : TE) : TE := fun σ H Q => tLockE t σ H Q ∨ t σ H Q
theorem pe_lockOr {X : Cx} {e : Expr} {t : TE} (h : PE X e t) : PE X e (tLockOrE t) := by
  refine ⟨fun pins s σ H Q I hw => ?_⟩
  rcases hw with hw | hw
  · exact (pe_lock h).run pins s σ H Q I hw
  · exact h.run pins s σ H Q I hw
theorem rd_lock {p a : Addr} {kl kl' : List (List L2.Key × V)} {od : Obj} (hp : H p = some (.dT kl)) (h : Rd H a (.dT kl')) : Rd (upd H p (.frz od (.dT kl))) a (.dT kl') := by
  by_cases c : a = p
  · subst c
    rcases h with h | ⟨o, h⟩
    · rw [hp] at h
      cases h
      exact .inr ⟨od, upd_same⟩
    · rw [hp] at h
      cases h
  · rcases h with h | ⟨o, h⟩
    · exact .inl (by rw [upd_ne c]; exact h)
    · exact .inr ⟨o, by rw [upd_ne c]; exact h⟩
theorem snd_keysIn (i j k : Nat) : Snd K (tLockOrE (tLc (iKeys (tVar i)) (gName k) (tB (tDIn (tVar k) (tVar j))) (tVar k) [k])) (fKeysIn i j k) := by
  intro B O I σ H env rv env' S e Q q
  unfold fKeysIn at e
  split at e
  · rename_i ks ds ks2 ds2 hi hj
    split at e
    · rename_i hc
      obtain ⟨c1, c2, c3⟩ := hc
      cases e
      obtain ⟨v1, s1, d1⟩ := S.fz i _ hi
      obtain ⟨v2, s2, d2⟩ := S.fz j _ hj
      cases d1 with
      | @dct d kl _ _ g1 g2 g3 =>
      cases d2 with
      | @dct d' kl' _ _ g1' g2' g3' =>
      have hd' := rd_mi g1'
      rcases rd_mi g1 with hd | ⟨od, hd⟩
      · refine .inl ⟨d, .dT kl, hd, trivial, fun od => ?_⟩
        refine keysIn_core S c1 c2 c3 s1 s2 g2 g2' g3' upd_same (fun a c => upd_ne c) (rd_lock hd hd') fun L acc hL hacc => ?_
        have Ld : L ≠ d := fun z => by
          rw [z, upd_same] at hL
          cases hL
        have HLn : H L = none := by
          rw [upd_ne Ld] at hL
          exact hL
        refine ⟨by rw [upd_ne (Ne.symm Ld), upd_same], ?_⟩
        have eq : upd (upd (upd H d (.frz od (.dT kl))) L (.lst acc)) d (.dT kl) = upd H L (.lst acc) := by
          funext a
          by_cases ca : a = d
          · subst ca
            rw [upd_same, upd_ne (Ne.symm Ld), hd]
          · rw [upd_ne ca]
            by_cases cl : a = L
            · subst cl
              rw [upd_same, upd_same]
            · rw [upd_ne cl, upd_ne cl, upd_ne ca]
        rw [eq]
        exact q _ _ (post_new S HLn hacc)
      · exact .inr (keysIn_core S c1 c2 c3 s1 s2 g2 g2' g3' hd (fun a c => rfl) hd' fun L acc hL hacc => q _ _ (post_new S hL hacc))
    · cases e
  · cases e
variable {PO : Out → Prop} {P : RV × Env → Prop}
theorem isi_tuple_nt {ds : List D} : gIsi "tuple" (.nt ds) = some (.val (.bl true)) := by
  show (kitB "tuple" "tuple").bind _ = _
  rw [show kitB "tuple" "tuple" = some true from by decide +kernel]
  rfl
def QFrzD (i : Nat) (g : SFn) (env : Env) (PO : Out → Prop) : Option SV → Prop
  | some (.nw (.dct kvs)) => Ok (g (env.set i (.fz (.dct (kvs.map (·.1)) (kvs.map (·.2)))))) PO
  | _ => False
theorem q_frzD {i : Nat} {g : SFn} {kvs : List (List Int × D)} : QFrzD i g env PO (some (.nw (.dct kvs))) ↔ Ok (g (env.set i (.fz (.dct (kvs.map (·.1)) (kvs.map (·.2)))))) PO := Iff.rfl
theorem w_frzD {i : Nat} {g : SFn} : Ok (fFrzD i g env) PO ↔ QFrzD i g env PO env[i]? := by
  unfold fFrzD
  cases env[i]? with
  | none => exact ⟨fun h => (ok_none.mp h).elim, fun h => h.elim⟩
  | some s =>
    cases s with
    | nw w =>
      cases w with
      | dct kvs => exact Iff.rfl
      | _ => exact ⟨fun h => (ok_none.mp h).elim, fun h => h.elim⟩
    | _ => exact ⟨fun h => (ok_none.mp h).elim, fun h => h.elim⟩
def QKeysIn (j k : Nat) (env : Env) (P : RV × Env → Prop) : Option SV → Option SV → Prop
  | some (.fz (.dct ks _)), some (.fz (.dct ks2 ds2)) => (j ≠ k ∧ k < env.length ∧ ks.length ≤ 1000000) ∧ P (.new (keepK ks (ks2.zip ds2)), env)
  | _, _ => False
theorem q_keysIn {j k : Nat} {ks ks2 : List (List Int)} {ds ds2 : List D} : QKeysIn j k env P (some (.fz (.dct ks ds))) (some (.fz (.dct ks2 ds2))) ↔ (j ≠ k ∧ k < env.length ∧ ks.length ≤ 1000000) ∧ P (.new (keepK ks (ks2.zip ds2)), env) := Iff.rfl
theorem w_keysIn {i j k : Nat} (h : QKeysIn j k env P env[i]? env[j]?) : Ok (fKeysIn i j k env) P := by
  unfold fKeysIn
  revert h
  cases env[i]? with
  | none => exact fun h => h.elim
  | some s =>
    cases s with
    | fz d =>
      cases d with
      | dct ks ds =>
        cases env[j]? with
        | none => exact fun h => h.elim
        | some s2 =>
          cases s2 with
          | fz d2 =>
            cases d2 with
            | dct ks2 ds2 => exact fun h => ok_guard.mpr ⟨h.1, ok_some.mpr h.2⟩
            | _ => exact fun h => h.elim
          | _ => exact fun h => h.elim
      | _ => exact fun h => h.elim
    | _ => exact fun h => h.elim
end
end Dv

/-! # dicts whose keys are whole numbers, owned by one name -/
namespace Dv
open PySem L2
def kValI (kvs : List (Int × D)) (k : Int) : Option D := (kvs.find? fun kv => decide (kv.1 = k)).map (·.2)
def kPutI (kvs : List (Int × D)) (k : Int) (d : D) : List (Int × D) := if (kvs.any fun kv => decide (kv.1 = k)) = true then kvs.map (fun kv => if kv.1 = k then (kv.1, d) else kv) else kvs ++ [(k, d)]
section
variable {K : PySem.W.Frag} {G : Hp}
theorem DqI.val : ∀ {ks : List (L2.Key × V)} {kvs : List (Int × D)} (k : Int), DqI K G ks kvs → (valV ks (Sum.inl k) = none ∧ kValI kvs k = none) ∨ ∃ v d, valV ks (Sum.inl k) = some v ∧ kValI kvs k = some d ∧ Dq K G v d
  | [], [], k, _ => .inl ⟨rfl, rfl⟩
  | [], _ :: _, _, h => h.elim
  | _ :: _, [], _, h => h.elim
  | p :: ks, q :: kvs, k, h => by
    obtain ⟨h1, h2, h3⟩ := h
    by_cases c : q.1 = k
    · refine .inr ⟨p.2, q.2, ?_, ?_, h2⟩
      · exact valV_pos (by rw [h1, c])
      · unfold kValI
        rw [List.find?_cons_of_pos (by simpa using c)]
        rfl
    · have e1 : valV (p :: ks) (Sum.inl k) = valV ks (Sum.inl k) := valV_neg (fun z => c (Sum.inl.inj (by rw [← z, h1])))
      have e2 : kValI (q :: kvs) k = kValI kvs k := by
        unfold kValI
        rw [List.find?_cons_of_neg (by simpa using c)]
      rw [e1, e2]
      exact DqI.val k h3
theorem DqI.any : ∀ {ks : List (L2.Key × V)} {kvs : List (Int × D)} (k : Int), DqI K G ks kvs → (ks.any fun kv => decide (kv.1 = Sum.inl k)) = kvs.any fun kv => decide (kv.1 = k)
  | [], [], k, _ => rfl
  | [], _ :: _, _, h => h.elim
  | _ :: _, [], _, h => h.elim
  | p :: ks, q :: kvs, k, h => by
    obtain ⟨h1, h2, h3⟩ := h
    rw [List.any_cons, List.any_cons, DqI.any k h3, h1]
    congr 1
    by_cases c : q.1 = k
    · rw [decide_eq_true c, decide_eq_true (by rw [c])]
    · rw [decide_eq_false c, decide_eq_false (fun z => c (Sum.inl.inj z))]
theorem DqI.maps {v : V} {d : D} (hv : Dq K G v d) : ∀ {ks : List (L2.Key × V)} {kvs : List (Int × D)} (k : Int), DqI K G ks kvs → DqI K G (ks.map fun kv => if kv.1 = Sum.inl k then (kv.1, v) else kv) (kvs.map fun kv => if kv.1 = k then (kv.1, d) else kv)
  | [], [], k, _ => trivial
  | [], _ :: _, _, h => h.elim
  | _ :: _, [], _, h => h.elim
  | p :: ks, q :: kvs, k, h => by
    obtain ⟨h1, h2, h3⟩ := h
    rw [List.map_cons, List.map_cons]
    have t := DqI.maps hv k h3
    by_cases c : q.1 = k
    · rw [if_pos c, if_pos (by rw [h1, c])]
      exact ⟨h1, hv, t⟩
    · rw [if_neg c, if_neg (fun z => c (Sum.inl.inj (by rw [← z, h1])))]
      exact ⟨h1, h2, t⟩
theorem DqI.snoc {v : V} {d : D} (hv : Dq K G v d) (k : Int) : ∀ {ks : List (L2.Key × V)} {kvs : List (Int × D)}, DqI K G ks kvs → DqI K G (ks ++ [(Sum.inl k, v)]) (kvs ++ [(k, d)])
  | [], [], _ => ⟨rfl, hv, trivial⟩
  | [], _ :: _, h => h.elim
  | _ :: _, [], h => h.elim
  | p :: ks, q :: kvs, h => ⟨h.1, h.2.1, DqI.snoc hv k h.2.2⟩
theorem DqI.put {v : V} {d : D} {ks : List (L2.Key × V)} {kvs : List (Int × D)} (k : Int) (h : DqI K G ks kvs) (hv : Dq K G v d) : DqI K G (putK ks (Sum.inl k) v) (kPutI kvs k d) := by
  unfold putK kPutI
  rw [h.any k]
  split
  · exact DqI.maps hv k h
  · exact DqI.snoc hv k h
theorem DqI.len : ∀ {ks : List (L2.Key × V)} {kvs : List (Int × D)}, DqI K G ks kvs → ks.length = kvs.length
  | [], [], _ => rfl
  | [], _ :: _, h => h.elim
  | _ :: _, [], h => h.elim
  | _ :: _, _ :: _, h => by
    rw [List.length_cons, List.length_cons, DqI.len h.2.2]
end
/-- what can be a key -/
def keyDI : D → Option Int
  | .int i => some i
  | _ => none
theorem keyD_ofI {K : PySem.W.Frag} {G : Hp} {v : V} {d : D} {k : Int} (h : Dq K G v d) (e : keyDI d = some k) : v = kV (Sum.inl k) := by
  cases d with
  | int i =>
    cases h
    cases e
    rfl
  | _ => cases e
section
variable {K : PySem.W.Frag} {B : Hp} {O : List Addr} {I : List (Nat × Addr)} {σ : L2.St} {H H' : Hp} {env env' : Env} {v : V} {t ta tb te tk tx : TE} {f fa fb fe fk fx : EF} {W : WN}
/-- a dict, by its name -/
theorem Sta.dctI (S : Sta K B O I σ H env) {i : Nat} {kvs : List (Int × D)} (h : env[i]? = some (.nw (.dcI kvs))) : ∃ p ks, σ[i]? = some (some (.ref p)) ∧ p ∈ O ∧ B p = none ∧ H p = some (.dK ks) ∧ DqI K (mi H O) ks kvs := by
  obtain ⟨p, a1, ⟨ks, a2, a3⟩, _, a4, _⟩ := S.nw i _ h
  have := a4 p adsOf_self
  exact ⟨p, ks, a1, this.1, this.2, a2, a3⟩
/-- a dict is changed in its place -/
theorem Sta.upDI (S : Sta K B O I σ H env) {i : Nat} {kvs kvs' : List (Int × D)} {p : Addr} {ks ks' : List (L2.Key × V)} (h : env[i]? = some (.nw (.dcI kvs))) (hs : σ[i]? = some (some (.ref p))) (hp : H p = some (.dK ks)) (hk : DqI K (mi H O) ks' kvs') :
    Sta K B O I σ (upd H p (.dK ks')) (env.set i (.nw (.dcI kvs'))) := by
  obtain ⟨p', a1, a2, a3, a4, a5, a6⟩ := S.nw i _ h
  rw [hs] at a1
  cases a1
  have pO := a4 p adsOf_self
  have hi : i < env.length := (List.getElem?_eq_some_iff.mp h).1
  have hm : mi (upd H p (.dK ks')) O = mi H O := mi_upd_in pO.1
  have get : ∀ j, j ≠ i → (env.set i (SV.nw (.dcI kvs')))[j]? = env[j]? := fun j c => List.getElem?_set_ne (Ne.symm c)
  have ne : ∀ j ds, OwnAt (env.set i (SV.nw (.dcI kvs'))) j ds → j ≠ i ∧ OwnAt env j ds := fun j ds z => by
    by_cases c : j = i
    · subst c
      unfold OwnAt at z
      rw [List.getElem?_set_self hi] at z
      rcases z with z | z <;> cases z
    · exact ⟨c, (own_set c).mp z⟩
  refine ⟨by simp [S.len], fun j d hj => ?_, fun j ds hj => ?_, fun j l ds es q hj hl e1 e2 => S.sep j l ds es q (ne j ds hj).2 (ne l es hl).2 e1 e2, fun a o ha => ?_, fun q hq => ?_, fun j q hj => ?_, fun j w hj => ?_, fun q xs hq => ?_⟩
  · rw [hm]
    by_cases c : j = i
    · subst c
      rw [List.getElem?_set_self hi] at hj
      cases hj
    · rw [get j c] at hj
      exact S.fz j d hj
  · rw [hm]
    obtain ⟨c, z⟩ := ne j ds hj
    obtain ⟨q, xs, k1, k2, k3, k4, k5⟩ := S.ow j ds z
    refine ⟨q, xs, k1, k2, ?_, k4, k5⟩
    rw [upd_ne (fun y => by rw [y, hp] at k3; cases k3)]
    exact k3
  · rw [upd_ne (fun y => by rw [y, pO.2] at ha; cases ha)]
    exact S.base a o ha
  · by_cases c : q = p
    · subst c
      exact ⟨_, upd_same⟩
    · rw [upd_ne c]
      exact S.dom q hq
  · obtain ⟨k1, ds, k2⟩ := S.pin j q hj
    have c : j ≠ i := fun z => by
      subst z
      rw [h] at k2
      cases k2
    exact ⟨k1, ds, by rw [get j c]; exact k2⟩
  · by_cases c : j = i
    · subst c
      rw [List.getElem?_set_self hi] at hj
      cases hj
      refine ⟨p, hs, ⟨ks', upd_same, by rw [hm]; exact hk⟩, by show [p].Nodup; simp, fun a ha => ?_, fun l ds a hl e => ?_, fun l w' q hl hw e a ha => ?_⟩
      · rw [show a = p from List.mem_singleton.mp ha]
        exact pO
      · exact a5 l ds a (ne l ds hl).2 e
      · rw [get l hl] at hw
        have e0 : a = p := List.mem_singleton.mp ha
        subst e0
        obtain ⟨q', b1, _, _, b4, b5, b6⟩ := S.nw l w' hw
        rw [e] at b1
        cases b1
        have nq : q ≠ a := fun z => by
          subst z
          exact a6 l w' q hl hw e q adsOf_self adsOf_self
        rw [adsOf_eq (upd_ne nq)]
        exact a6 l w' q hl hw e a adsOf_self
    · rw [get j c] at hj
      obtain ⟨q, b1, b2, b3, b4, b5, b6⟩ := S.nw j w hj
      have np : ∀ a, a ∈ adsOf H q w → a ≠ p := fun a ha z => by
        subst z
        exact b6 i _ a (Ne.symm c) h hs a ha adsOf_self
      have e0 : adsOf (upd H p (.dK ks')) q w = adsOf H q w := adsOf_eq (upd_ne (np q adsOf_self))
      refine ⟨q, b1, b2.mono (by rw [hm]; exact Same.refl _) fun a ha => upd_ne (np a ha), by rw [e0]; exact b3, by rw [e0]; exact b4, fun l ds a hl e => ?_, fun l w' r hl hw e a ha => ?_⟩
      · rw [e0]
        exact b5 l ds a (ne l ds hl).2 e
      · rw [e0] at ha
        by_cases c' : l = i
        · subst c'
          rw [List.getElem?_set_self hi] at hw
          cases hw
          rw [hs] at e
          cases e
          exact fun z => np a ha (List.mem_singleton.mp z)
        · rw [get l c'] at hw
          obtain ⟨r', d1, _, _, d4, d5, d6⟩ := S.nw l w' hw
          rw [e] at d1
          cases d1
          have nr : r ≠ p := fun z => by
            subst z
            exact d6 i _ r (Ne.symm c') h hs r adsOf_self adsOf_self
          rw [adsOf_eq (upd_ne nr)]
          exact b6 l w' r hl hw e a ha
  · by_cases c : q = p
    · subst c
      rw [upd_same]
      exact fun z => by cases z
    · rw [upd_ne c]
      exact S.nt q xs hq
/-- a name gets a new dict -/
theorem Sta.newDI {i : Nat} {p : Addr} (S : Sta K B O I σ H env) (hp : H p = none) (e : putS i (.nw (.dcI [])) env = some env') : Sta K B (p :: O) I (σ.set i (some (.ref p))) (upd H p (.dK [])) env' := by
  obtain ⟨h1, h2, rfl⟩ := putS_of e
  have hs : i < σ.length := by rw [S.len]; exact h2
  have hO : p ∉ O := not_dom S.dom hp
  have up : Same H (upd H p (.dK [])) := same_new hp
  have sm : Same (mi H O) (mi (upd H p (.dK [])) (p :: O)) := fun a o ha => by
    obtain ⟨z1, z2⟩ := mi_some ha
    exact mi_of (fun y => (List.mem_cons.mp y).elim (fun y => by rw [y, hp] at z2; cases z2) z1) (up _ _ z2)
  have get : ∀ j, j ≠ i → (env.set i (SV.nw (.dcI [])))[j]? = env[j]? := fun j c => List.getElem?_set_ne (Ne.symm c)
  have gets : ∀ j, j ≠ i → (σ.set i (some (V.ref p)))[j]? = σ[j]? := fun j c => List.getElem?_set_ne (Ne.symm c)
  have ne : ∀ j ds, OwnAt (env.set i (SV.nw (.dcI []))) j ds → j ≠ i ∧ OwnAt env j ds := fun j ds z => by
    by_cases c : j = i
    · subst c
      unfold OwnAt at z
      rw [List.getElem?_set_self h2] at z
      rcases z with z | z <;> cases z
    · exact ⟨c, (own_set c).mp z⟩
  refine ⟨by simp [S.len], fun j d hj => ?_, fun j ds hj => ?_, fun j l ds es q hj hl e1 e2 => ?_, S.base.trans up, fun q hq => ?_, fun j q hj => ?_, fun j w hj => ?_, fun q xs hq => ?_⟩
  · by_cases c : j = i
    · subst c
      rw [List.getElem?_set_self h2] at hj
      cases hj
    · rw [get j c] at hj
      rw [gets j c]
      obtain ⟨w, k1, k2⟩ := S.fz j d hj
      exact ⟨w, k1, Dq.mono sm _ _ k2⟩
  · obtain ⟨c, z⟩ := ne j ds hj
    rw [gets j c]
    obtain ⟨q, xs, k1, k2, k3, k4, k5⟩ := S.ow j ds z
    exact ⟨q, xs, k1, List.mem_cons_of_mem _ k2, up _ _ k3, DqA.mono sm _ _ k4, k5⟩
  · obtain ⟨c, z⟩ := ne j ds hj
    obtain ⟨c', z'⟩ := ne l es hl
    rw [gets j c] at e1
    rw [gets l c'] at e2
    exact S.sep j l ds es q z z' e1 e2
  · rcases List.mem_cons.mp hq with rfl | hq
    · exact ⟨_, upd_same⟩
    · obtain ⟨o, z⟩ := S.dom q hq
      exact ⟨o, up _ _ z⟩
  · obtain ⟨k1, ds, k2⟩ := S.pin j q hj
    have c : j ≠ i := fun z => by
      subst z
      rw [isIo_of k2] at h1
      cases h1
    rw [get j c, gets j c]
    exact ⟨k1, ds, k2⟩
  · have old : ∀ {l : Nat} {w : OV}, env[l]? = some (.nw w) → ∀ {q : Addr}, σ[l]? = some (some (.ref q)) → (∀ a, a ∈ adsOf H q w → a ∈ O) ∧ adsOf (upd H p (.dK [])) q w = adsOf H q w := fun {l w} hl {q} hq => by
      obtain ⟨q', b1, _, _, b4, _⟩ := S.nw l w hl
      rw [hq] at b1
      cases b1
      refine ⟨fun a ha => (b4 a ha).1, adsOf_eq (upd_ne fun z => ?_)⟩
      subst z
      exact hO (b4 q adsOf_self).1
    by_cases c : j = i
    · subst c
      rw [List.getElem?_set_self h2] at hj
      cases hj
      refine ⟨p, List.getElem?_set_self hs, ⟨[], upd_same, trivial⟩, by show [p].Nodup; simp, fun a ha => ?_, fun l ds a hl e z => ?_, fun l w' q hl hw e a ha z => ?_⟩
      · rw [show a = p from List.mem_singleton.mp ha]
        exact ⟨List.mem_cons_self, S.base.free hp⟩
      · obtain ⟨c, y⟩ := ne l ds hl
        rw [gets l c] at e
        obtain ⟨q, xs, k1, k2, _⟩ := S.ow l ds y
        rw [e] at k1
        cases k1
        rw [show a = p from List.mem_singleton.mp z] at k2
        exact hO k2
      · rw [get l hl] at hw
        rw [gets l hl] at e
        obtain ⟨y1, y2⟩ := old hw e
        rw [y2] at z
        rw [show a = p from List.mem_singleton.mp ha] at z
        exact hO (y1 p z)
    · rw [get j c] at hj
      rw [gets j c]
      obtain ⟨q, b1, b2, b3, b4, b5, b6⟩ := S.nw j w hj
      obtain ⟨y1, y2⟩ := old hj b1
      refine ⟨q, b1, b2.mono sm fun a ha => upd_ne fun z => hO (z ▸ y1 a ha), by rw [y2]; exact b3, fun a ha => ?_, fun l ds a hl e => ?_, fun l w' r hl hw e a ha => ?_⟩
      · rw [y2] at ha
        exact ⟨List.mem_cons_of_mem _ (b4 a ha).1, (b4 a ha).2⟩
      · obtain ⟨c', y⟩ := ne l ds hl
        rw [gets l c'] at e
        rw [y2]
        exact b5 l ds a y e
      · rw [y2] at ha
        by_cases c' : l = i
        · subst c'
          rw [List.getElem?_set_self h2] at hw
          cases hw
          rw [List.getElem?_set_self hs] at e
          cases e
          exact fun z => hO (by rw [← show a = p from List.mem_singleton.mp z]; exact y1 a ha)
        · rw [get l c'] at hw
          rw [gets l c'] at e
          rw [(old hw e).2]
          exact b6 l w' r hl hw e a ha
  · rcases List.mem_cons.mp hq with rfl | hq
    · rw [upd_same]
      exact fun z => by cases z
    · exact S.ntS hq (fun o z => up _ _ z) xs
/-! x = {} -/
def fDNewI (i : Nat) : SFn := fun env => (putS i (.nw (.dcI [])) env).bind fun e => some (.nx e)
theorem ss_dnewI {i : Nat} : SndS K W (tAsg tDNewK (gName i)) (fDNewI i) := by
  intro B O I σ H env o S e D k
  obtain ⟨env2, e2, e⟩ := bnd e
  cases e
  intro p hp
  exact k (p :: O) _ _ ⟨fun a h _ => List.mem_cons_of_mem _ h, fun a h => (List.mem_cons.mp h).elim (fun z => .inr (z ▸ S.base.free hp)) .inl⟩ (S.newDI hp e2)
def dctAtI (env : Env) (i : Nat) : Option (List (Int × D)) := match env[i]? with
  | some (.nw (.dcI kvs)) => some kvs
  | _ => none
theorem dctAt_ofI {i : Nat} {kvs : List (Int × D)} (h : dctAtI env i = some kvs) : env[i]? = some (.nw (.dcI kvs)) := by
  unfold dctAtI at h
  split at h
  · cases h
    assumption
  · cases h
/-! d[k] -/
def fDIxI (i : Nat) (fk : EF) : EF := fun env => (dctAtI env i).bind fun _ => (fk env).bind fun a => match a.1 with
  | .val kd => (keyDI kd).bind fun k => (dctAtI a.2 i).bind fun kvs => (kValI kvs k).bind fun d => some (.val d, a.2)
  | _ => none
theorem snd_dixI {i : Nat} (hk : Snd K tk fk) : Snd K (tDGet (tVar i) tk) (fDIxI i fk) := by
  intro B O I σ H env rv env' S e Q q
  obtain ⟨kvs0, e0, e⟩ := bnd e
  obtain ⟨⟨r1, env1⟩, e1, e⟩ := bnd e
  dsimp only at e
  split at e
  · rename_i kd
    obtain ⟨k, e2, e⟩ := bnd e
    obtain ⟨kvs, e3, e⟩ := bnd e
    obtain ⟨d, e4, e⟩ := bnd e
    cases e
    obtain ⟨p, ks, s1, _⟩ := S.dctI (dctAt_ofI e0)
    refine ⟨_, s1, ?_⟩
    refine hk B O I σ H env _ _ S e1 _ fun y H1 P1 => ?_
    obtain ⟨S1, dy⟩ := P1
    obtain ⟨p', ks', s1', pO, _, hp, hd⟩ := S1.dctI (dctAt_ofI e3)
    rw [s1] at s1'
    cases s1'
    obtain rfl := keyD_ofI dy e2
    rcases hd.val k with ⟨_, z⟩ | ⟨v, d', z1, z2, z3⟩
    · rw [z] at e4
      cases e4
    · rw [z2] at e4
      cases e4
      exact ⟨p, v, rfl, by rw [← z1]; exact DGet.k hp, q v H1 ⟨S1, z3⟩⟩
  · cases e
/-! d.get(k, x) -/
def fDGet2I (i : Nat) (fk fx : EF) : EF := fun env => (dctAtI env i).bind fun _ => (fk env).bind fun a => match a.1 with
  | .val kd => (keyDI kd).bind fun k => (fx a.2).bind fun b => match frz b.1 with
    | .val x => (dctAtI b.2 i).bind fun kvs => some (.val ((kValI kvs k).getD x), b.2)
    | _ => none
  | _ => none
theorem snd_dget2I {i : Nat} (hk : Snd K tk fk) (hx : Snd K tx fx) : Snd K (tDGet2 (tVar i) tk tx) (fDGet2I i fk fx) := by
  intro B O I σ H env rv env' S e Q q
  obtain ⟨kvs0, e0, e⟩ := bnd e
  obtain ⟨⟨r1, env1⟩, e1, e⟩ := bnd e
  dsimp only at e
  split at e
  · rename_i kd
    obtain ⟨k, e2, e⟩ := bnd e
    obtain ⟨⟨r2, env2⟩, e3, e⟩ := bnd e
    dsimp only at e
    split at e
    · rename_i x hx2
      obtain ⟨kvs, e4, e⟩ := bnd e
      cases e
      obtain ⟨p, ks, s1, pO0, _, hp0, _⟩ := S.dctI (dctAt_ofI e0)
      refine ⟨_, s1, p, rfl, .inl ⟨ks, .inl hp0⟩, ?_⟩
      refine hk B O I σ H env _ _ S e1 _ fun y H1 P1 => ?_
      have S1 := P1.sta
      refine hx _ O I σ H1 _ r2 _ S1.strong e3 _ fun z H2 P2 => ?_
      have P3 := Post.later (r := .val kd) P1 P2.sta
      have P4 := (P2.weakN S1.base_keep).frz
      rw [hx2] at P4
      obtain ⟨S2, dz⟩ := P4
      obtain ⟨p', ks', s1', pO, _, hp, hd⟩ := S2.dctI (dctAt_ofI e4)
      rw [s1] at s1'
      cases s1'
      obtain rfl := keyD_ofI P3.2 e2
      refine ⟨_, DGet.k hp, ?_⟩
      rcases hd.val k with ⟨z1, z2⟩ | ⟨v, d', z1, z2, z3⟩
      · rw [z1]
        refine q _ _ ⟨S2, ?_⟩
        rw [z2]
        exact dz
      · rw [z1]
        refine q _ _ ⟨S2, ?_⟩
        rw [z2]
        exact z3
    · cases e
  · cases e
/-! k in d -/
def fDInI (i : Nat) (neg : Bool) (fk : EF) : EF := fun env => (fk env).bind fun a => match a.1 with
  | .val kd => (keyDI kd).bind fun k => (dctAtI a.2 i).bind fun kvs => some (.val (.bl ((kValI kvs k).isSome != neg)), a.2)
  | _ => none
theorem snd_dinI {i : Nat} (hk : Snd K tk fk) : Snd K (tDIn tk (tVar i)) (fDInI i false fk) := by
  intro B O I σ H env rv env' S e Q q
  obtain ⟨⟨r1, env1⟩, e1, e⟩ := bnd e
  dsimp only at e
  split at e
  · rename_i kd
    obtain ⟨k, e2, e⟩ := bnd e
    obtain ⟨kvs, e3, e⟩ := bnd e
    cases e
    refine hk B O I σ H env _ _ S e1 _ fun y H1 P1 => ?_
    obtain ⟨S1, dy⟩ := P1
    obtain ⟨p, ks, s1, pO, _, hp, hd⟩ := S1.dctI (dctAt_ofI e3)
    obtain rfl := keyD_ofI dy e2
    refine ⟨_, s1, p, _, rfl, DGet.k hp, q _ _ ⟨S1, ?_⟩⟩
    rcases hd.val k with ⟨z1, z2⟩ | ⟨v, d', z1, z2, z3⟩
    · rw [z1, z2]
      exact .bl _
    · rw [z1, z2]
      exact .bl _
  · cases e
theorem snd_dnotinI {i : Nat} (hk : Snd K tk fk) : Snd K (tDNotIn tk (tVar i)) (fDInI i true fk) := by
  intro B O I σ H env rv env' S e Q q
  obtain ⟨⟨r1, env1⟩, e1, e⟩ := bnd e
  dsimp only at e
  split at e
  · rename_i kd
    obtain ⟨k, e2, e⟩ := bnd e
    obtain ⟨kvs, e3, e⟩ := bnd e
    cases e
    refine hk B O I σ H env _ _ S e1 _ fun y H1 P1 => ?_
    obtain ⟨S1, dy⟩ := P1
    obtain ⟨p, ks, s1, pO, _, hp, hd⟩ := S1.dctI (dctAt_ofI e3)
    obtain rfl := keyD_ofI dy e2
    refine ⟨_, s1, p, _, rfl, DGet.k hp, q _ _ ⟨S1, ?_⟩⟩
    rcases hd.val k with ⟨z1, z2⟩ | ⟨v, d', z1, z2, z3⟩
    · rw [z1, z2]
      exact .bl _
    · rw [z1, z2]
      exact .bl _
  · cases e
/-! d[k] = e -/
def fDPutI (i : Nat) (fk fe : EF) : SFn := fun env => (fe env).bind fun a => (dctAtI a.2 i).bind fun _ => (fk a.2).bind fun b => match frz a.1, b.1 with
  | .val d, .val kd => (keyDI kd).bind fun k => (dctAtI b.2 i).bind fun kvs => if kvs.length ≤ 1000000 then some (.nx (b.2.set i (.nw (.dcI (kPutI kvs k d))))) else none
  | _, _ => none
theorem ss_dputI {i : Nat} (he : Snd K te fe) (hk : Snd K tk fk) : SndS K W (tAsg te (L2.gSub (tVar i) tk rSetD)) (fDPutI i fk fe) := by
  intro B O I σ H env o S e D kk
  obtain ⟨⟨r1, env1⟩, e1, e⟩ := bnd e
  obtain ⟨kvs0, e0, e⟩ := bnd e
  obtain ⟨⟨r2, env2⟩, e2, e⟩ := bnd e
  dsimp only at e e0 e2
  split at e
  · rename_i d kd hd
    obtain ⟨k, e3, e⟩ := bnd e
    obtain ⟨kvs, e4, e⟩ := bnd e
    split at e
    · rename_i hl
      cases e
      refine he B O I σ H env r1 env1 S e1 _ fun x H1 P1 => ?_
      have P1' := P1.frz
      have S1 := P1'.sta
      obtain ⟨p, ks0, s1, _⟩ := S1.dctI (dctAt_ofI e0)
      refine ⟨_, s1, ?_⟩
      refine hk _ O I σ H1 env1 _ env2 S1.strong e2 _ fun y H2 P2 => ?_
      have P3 := P1'.later P2.1
      rw [hd] at P3
      obtain ⟨S3, dx⟩ := P3
      obtain ⟨p', ks, s1', pO, _, hp, hk2⟩ := S3.dctI (dctAt_ofI e4)
      rw [s1] at s1'
      cases s1'
      obtain rfl := keyD_ofI P2.2 e3
      refine ⟨p, _, rfl, .k hp ?_, ?_⟩
      · rw [hk2.len]
        exact line_lt (by omega)
      · exact kk O σ _ .refl (S3.upDI (dctAt_ofI e4) s1 hp (hk2.put k dx))
    · cases e
  · cases e
end
section
variable {P : RV × Env → Prop} {PO : Out → Prop} {env e : Env} {f fa fb fk fe fx : EF} {fr : AF} {rs : List RV} {r : RV} {i : Nat} {d kd x : D} {s : SV} {kvs : List (Int × D)} {k : Int}
theorem dct_0I : dctAtI (.nw (.dcI kvs) :: env) 0 = some kvs := rfl
theorem dct_sI : dctAtI (s :: env) (i + 1) = dctAtI env i := by
  unfold dctAtI
  rw [List.getElem?_cons_succ]
theorem w_dnewI : Ok (fDNewI i env) PO ↔ Ok (putS i (.nw (.dcI [])) env) (KNx PO) := ok_bind_iff fun e => ok_some
theorem keyI_1 {x : Int} : keyDI (.int x) = some x := rfl
/-- d[k] -/
def QDIxI (e : Env) (P : RV × Env → Prop) : Option Int → Option (List (Int × D)) → Prop
  | some k, some kvs => Ok (kValI kvs k) (KV e P)
  | _, _ => False
def KDIxI (i : Nat) (P : RV × Env → Prop) : RV × Env → Prop := fun a => match a.1 with
  | .val kd => QDIxI a.2 P (keyDI kd) (dctAtI a.2 i)
  | _ => False
theorem q_dixI : QDIxI e P (some k) (some kvs) ↔ Ok (kValI kvs k) (KV e P) := Iff.rfl
theorem k_dixI : KDIxI i P (.val kd, e) ↔ QDIxI e P (keyDI kd) (dctAtI e i) := Iff.rfl
theorem w_dixI : Ok (fDIxI i fk env) P ↔ (dctAtI env i).isSome = true ∧ Ok (fk env) (KDIxI i P) := by
  unfold fDIxI
  cases hd : dctAtI env i with
  | none => exact ⟨fun h => (ok_none.mp h).elim, fun h => by simp at h⟩
  | some z =>
    rw [Option.bind_some]
    simp only [Option.isSome_some, true_and]
    refine ok_bind_iff fun ⟨r, e⟩ => ?_
    cases r with
    | val kd =>
      show Ok (Option.bind (keyDI kd) _) P ↔ QDIxI e P (keyDI kd) (dctAtI e i)
      cases keyDI kd with
      | none => exact ⟨fun h => (ok_none.mp h).elim, fun h => h.elim⟩
      | some k =>
        rw [Option.bind_some]
        show Ok (Option.bind (dctAtI e i) _) P ↔ _
        cases dctAtI e i with
        | none => exact ⟨fun h => (ok_none.mp h).elim, fun h => h.elim⟩
        | some kvs =>
          rw [Option.bind_some]
          exact ok_bind_iff fun d => ok_some
    | _ => exact ⟨fun h => (ok_none.mp h).elim, fun h => h.elim⟩
/-- d.get(k, x) -/
def QDG2I (e : Env) (k : Int) (x : D) (P : RV × Env → Prop) : Option (List (Int × D)) → Prop
  | some kvs => P (.val ((kValI kvs k).getD x), e)
  | _ => False
def KDG2I (i : Nat) (k : Int) (P : RV × Env → Prop) : RV × Env → Prop := fun b => match frz b.1 with
  | .val x => QDG2I b.2 k x P (dctAtI b.2 i)
  | _ => False
def QDG1I (i : Nat) (fx : EF) (e : Env) (P : RV × Env → Prop) : Option Int → Prop
  | some k => Ok (fx e) (KDG2I i k P)
  | _ => False
def KDG1I (i : Nat) (fx : EF) (P : RV × Env → Prop) : RV × Env → Prop := fun a => match a.1 with
  | .val kd => QDG1I i fx a.2 P (keyDI kd)
  | _ => False
theorem q_dg2I : QDG2I e k x P (some kvs) ↔ P (.val ((kValI kvs k).getD x), e) := Iff.rfl
theorem k_dg2I : KDG2I i k P (.val x, e) ↔ QDG2I e k x P (dctAtI e i) := Iff.rfl
theorem q_dg1I : QDG1I i fx e P (some k) ↔ Ok (fx e) (KDG2I i k P) := Iff.rfl
theorem k_dg1I : KDG1I i fx P (.val kd, e) ↔ QDG1I i fx e P (keyDI kd) := Iff.rfl
theorem w_dget2I : Ok (fDGet2I i fk fx env) P ↔ (dctAtI env i).isSome = true ∧ Ok (fk env) (KDG1I i fx P) := by
  unfold fDGet2I
  cases hd : dctAtI env i with
  | none => exact ⟨fun h => (ok_none.mp h).elim, fun h => by simp at h⟩
  | some z =>
    rw [Option.bind_some]
    simp only [Option.isSome_some, true_and]
    refine ok_bind_iff fun ⟨r, e⟩ => ?_
    cases r with
    | val kd =>
      show Ok (Option.bind (keyDI kd) _) P ↔ QDG1I i fx e P (keyDI kd)
      cases keyDI kd with
      | none => exact ⟨fun h => (ok_none.mp h).elim, fun h => h.elim⟩
      | some k =>
        rw [Option.bind_some]
        refine ok_bind_iff fun ⟨r2, e2⟩ => ?_
        show Ok (match frz r2 with | .val x => _ | _ => none) P ↔ (match frz r2 with | .val x => QDG2I e2 k x P (dctAtI e2 i) | _ => False)
        cases frz r2 with
        | val x =>
          dsimp only
          cases dctAtI e2 i with
          | none => exact ⟨fun h => (ok_none.mp h).elim, fun h => h.elim⟩
          | some kvs => exact ok_some
        | _ => exact ⟨fun h => (ok_none.mp h).elim, fun h => h.elim⟩
    | _ => exact ⟨fun h => (ok_none.mp h).elim, fun h => h.elim⟩
/-- k in d -/
def QDInI (neg : Bool) (e : Env) (P : RV × Env → Prop) : Option Int → Option (List (Int × D)) → Prop
  | some k, some kvs => P (.val (.bl ((kValI kvs k).isSome != neg)), e)
  | _, _ => False
def KDInI (i : Nat) (neg : Bool) (P : RV × Env → Prop) : RV × Env → Prop := fun a => match a.1 with
  | .val kd => QDInI neg a.2 P (keyDI kd) (dctAtI a.2 i)
  | _ => False
theorem q_dinI {neg : Bool} : QDInI neg e P (some k) (some kvs) ↔ P (.val (.bl ((kValI kvs k).isSome != neg)), e) := Iff.rfl
theorem k_dinI {neg : Bool} : KDInI i neg P (.val kd, e) ↔ QDInI neg e P (keyDI kd) (dctAtI e i) := Iff.rfl
theorem w_dinI {neg : Bool} : Ok (fDInI i neg fk env) P ↔ Ok (fk env) (KDInI i neg P) := by
  refine ok_bind_iff fun ⟨r, e⟩ => ?_
  cases r with
  | val kd =>
    show Ok (Option.bind (keyDI kd) _) P ↔ QDInI neg e P (keyDI kd) (dctAtI e i)
    cases keyDI kd with
    | none => exact ⟨fun h => (ok_none.mp h).elim, fun h => h.elim⟩
    | some k =>
      rw [Option.bind_some]
      show Ok (Option.bind (dctAtI e i) _) P ↔ _
      cases dctAtI e i with
      | none => exact ⟨fun h => (ok_none.mp h).elim, fun h => h.elim⟩
      | some kvs => exact ok_some
  | _ => exact ⟨fun h => (ok_none.mp h).elim, fun h => h.elim⟩
/-- d[k] = e -/
def QDPI (i : Nat) (d : D) (e : Env) (PO : Out → Prop) : Option Int → Option (List (Int × D)) → Prop
  | some k, some kvs => kvs.length ≤ 1000000 ∧ PO (.nx (e.set i (.nw (.dcI (kPutI kvs k d)))))
  | _, _ => False
def KDP2I (i : Nat) (r : RV) (PO : Out → Prop) : RV × Env → Prop := fun b => match frz r, b.1 with
  | .val d, .val kd => QDPI i d b.2 PO (keyDI kd) (dctAtI b.2 i)
  | _, _ => False
def KDP1I (i : Nat) (fk : EF) (PO : Out → Prop) : RV × Env → Prop := fun a => (dctAtI a.2 i).isSome = true ∧ Ok (fk a.2) (KDP2I i a.1 PO)
theorem q_dpI : QDPI i d e PO (some k) (some kvs) ↔ kvs.length ≤ 1000000 ∧ PO (.nx (e.set i (.nw (.dcI (kPutI kvs k d))))) := Iff.rfl
theorem k_dp2I : KDP2I i (.val d) PO (.val kd, e) ↔ QDPI i d e PO (keyDI kd) (dctAtI e i) := Iff.rfl
theorem k_dp2nI {ds : List D} : KDP2I i (.new ds) PO (.val kd, e) ↔ QDPI i (.lst ds) e PO (keyDI kd) (dctAtI e i) := Iff.rfl
theorem k_dp1I : KDP1I i fk PO (r, e) ↔ (dctAtI e i).isSome = true ∧ Ok (fk e) (KDP2I i r PO) := Iff.rfl
theorem w_dputI : Ok (fDPutI i fk fe env) PO ↔ Ok (fe env) (KDP1I i fk PO) := by
  refine ok_bind_iff fun ⟨r, e⟩ => ?_
  show Ok (Option.bind (dctAtI e i) _) PO ↔ (dctAtI e i).isSome = true ∧ Ok (fk e) (KDP2I i r PO)
  cases dctAtI e i with
  | none => exact ⟨fun h => (ok_none.mp h).elim, fun h => by simp at h⟩
  | some z =>
    rw [Option.bind_some]
    simp only [Option.isSome_some, true_and]
    refine ok_bind_iff fun ⟨r2, e2⟩ => ?_
    show Ok (match frz r, r2 with | .val d, .val kd => _ | _, _ => none) PO ↔ (match frz r, r2 with | .val d, .val kd => QDPI i d e2 PO (keyDI kd) (dctAtI e2 i) | _, _ => False)
    cases frz r with
    | val d =>
      cases r2 with
      | val kd =>
        dsimp only
        cases keyDI kd with
        | none => exact ⟨fun h => (ok_none.mp h).elim, fun h => h.elim⟩
        | some k =>
          rw [Option.bind_some]
          cases dctAtI e2 i with
          | none => exact ⟨fun h => (ok_none.mp h).elim, fun h => h.elim⟩
          | some kvs =>
            rw [Option.bind_some, ok_guard, ok_some]
            exact Iff.rfl
      | _ => exact ⟨fun h => (ok_none.mp h).elim, fun h => h.elim⟩
    | _ => exact ⟨fun h => (ok_none.mp h).elim, fun h => h.elim⟩
end
end Dv

namespace Big
open PySem PySem.Spec PyProof.Rows L2
section
variable {X : Cx}
def rMaxK : List V → Hp → VK → Prop := fun vs H Q => ∃ (a : Addr) (kvs : List (Key × V)) (is : List Int), vs = [V.ref a] ∧ H a = some (.dK kvs) ∧ kvs.map (·.1) = is.map Sum.inl ∧ is ≠ [] ∧ ∀ m, m ∈ is → (∀ j ∈ is, j ≤ m) → Q (.int m) H
theorem cr_maxK (hc : X.calm = true) : CallR X (.builtin "max") rMaxK := by
  intro pins s σ H vs us Q I r h
  obtain ⟨a, kvs, is, rfl, ha, hv, hne, q⟩ := h
  rw [Vals.ref1 r]
  obtain ⟨_, hsys, vs, rel, dof⟩ := dk_of I.hok ha
  obtain ⟨ep, dat⟩ := dof.dictAt
  obtain ⟨ob, es, ho, hex, hdat, hko, hpr, hnd⟩ := id dat
  have hlt : a < s.heap.objs.size := Heap.lt_size ho
  have hkeys : vs.map (·.1) = is.map Sum.inl := (KV.keys rel).symm.trans hv
  have hlv : vs.length = is.length := by
    have e1 := congrArg List.length hkeys
    rw [List.length_map, List.length_map] at e1
    exact e1
  have hlen : 0 < vs.length := by
    rw [hlv]
    exact List.length_pos_iff.mpr hne
  have hval : ∀ (i : Nat) (v : Value), (∃ k x, vs[i]? = some (k, x) ∧ (mixKind X.prog X.w).is k v = true) → ∃ t, v = Value.int (is.getD i 0) t := fun i v ⟨k, x, hk, hkey⟩ => by
    have e1 : (vs.map (·.1))[i]? = some k := by rw [List.getElem?_map, hk] <;> rfl
    rw [hkeys, List.getElem?_map] at e1
    obtain ⟨j, hj, e2⟩ := Option.map_eq_some_iff.mp e1
    subst e2
    have hi : Value.isInt j v = true := hkey
    obtain ⟨t, e3⟩ := Value.isInt_shape (k := j) (v := v) hi
    refine ⟨t, ?_⟩
    rw [e3, List.getD_eq_getElem?_getD, hj] <;> rfl
  refine call_max_walk (wpAny_pyIter_dict (knd := mixKind X.prog X.w) hsys dat ?_)
  refine ⟨_, _, _, _, _, _, _, rfl, Walks.dictKeys (knd := mixKind X.prog X.w) (A := X.A.in1) (I.ok.hd hc) s.heap.objs.size a (Nat.ne_of_lt hlt) vs ep,
    ⟨⟨_, Heap.get?_push_size _ rfl, rfl, rfl⟩, dat.keep fun b u e => Heap.get?_push_of_some _ e⟩, fun b hb => ?_, hlen, CmpOf.ints_gt (fun i => is.getD i 0) hval, fun v h' tk hP hk => ?_⟩
  · show b < (s.heap.push _).objs.size
    rw [Heap.size_push]
    rcases List.mem_cons.mp hb with e | hb
    · rw [e]
      exact Nat.lt_succ_self _
    · rw [List.mem_singleton.mp hb]
      exact Nat.lt_succ_of_lt hlt
  · obtain ⟨t, rfl⟩ := hval _ v hP
    obtain ⟨b1, b2⟩ := argBest_gt (fun i => is.getD i 0) (vs.length - 1)
    refine ⟨.int _, H, I.kept (t' := tk) fun b u e => hk b u (fun hmem => ?_) (Heap.get?_push_of_some _ e), ⟨t, rfl⟩, q _ ?_ fun j hj => ?_⟩
    · have e1 : b = s.heap.objs.size := List.mem_singleton.mp hmem
      have e2 := Heap.lt_size e
      rw [e1] at e2
      exact absurd e2 (Nat.lt_irrefl _)
    · have hb : argBest (fun i j => decide (is.getD i 0 > is.getD j 0)) (vs.length - 1) < is.length := by omega
      rw [List.getD_eq_getElem?_getD, List.getElem?_eq_getElem hb]
      exact List.getElem_mem hb
    · obtain ⟨i, hi, e⟩ := List.mem_iff_getElem.mp hj
      have e2 : is.getD i 0 = j := by rw [List.getD_eq_getElem?_getD, List.getElem?_eq_getElem hi, ← e] <;> rfl
      rw [← e2]
      exact b2 i (by omega)
end
end Big
namespace Dv
open PySem L2
section
variable {K : PySem.W.Frag} {B : Hp} {O : List Addr} {I : List (Nat × Addr)} {σ : L2.St} {H H' G : Hp} {env env' : Env} {v : V} {W : WN}
theorem DqI.keys : ∀ {ks : List (L2.Key × V)} {kvs : List (Int × D)}, DqI K G ks kvs → ks.map (·.1) = (kvs.map (·.1)).map Sum.inl
  | [], [], _ => rfl
  | [], _ :: _, h => h.elim
  | _ :: _, [], h => h.elim
  | p :: ks, q :: kvs, h => by
    obtain ⟨h1, _, h3⟩ := h
    rw [List.map_cons, List.map_cons, List.map_cons, DqI.keys h3, h1]
/-- max(d) -/
def fDMaxI (i : Nat) : EF := fun env => (dctAtI env i).bind fun kvs => (maxL (kvs.map (·.1))).bind fun m => some (.val (.int m), env)
theorem snd_dmaxI {i : Nat} : Snd K (tCB Big.rMaxK (tCons (tVar i) tNil)) (fDMaxI i) := by
  intro B O I σ H env rv env' S e Q q
  obtain ⟨kvs, e0, e⟩ := bnd e
  obtain ⟨m, e1, e⟩ := bnd e
  cases e
  obtain ⟨p, ks, s1, pO, pB, hp, hd⟩ := S.dctI (dctAt_ofI e0)
  obtain ⟨m1, m2⟩ := maxL_spec e1
  have ne : kvs.map (fun p : Int × D => p.1) ≠ [] := fun z => by
    rw [z] at m1
    cases m1
  refine ⟨_, s1, p, ks, kvs.map (fun p : Int × D => p.1), rfl, hp, hd.keys, ne, fun x hx hy => ?_⟩
  have : x = m := Int.le_antisymm (m2 x hx) (hy m m1)
  rw [this]
  exact q _ H ⟨S, .int _⟩
end
section
variable {P : RV × Env → Prop} {env : Env} {i : Nat} {kvs : List (Int × D)}
def QDMI (e : Env) (P : RV × Env → Prop) : Option (List (Int × D)) → Prop
  | some kvs => Ok (maxL (kvs.map (·.1))) fun m => P (.val (.int m), e)
  | _ => False
theorem q_dmI : QDMI env P (some kvs) ↔ Ok (maxL (kvs.map (·.1))) fun m => P (.val (.int m), env) := Iff.rfl
theorem w_dmaxI : Ok (fDMaxI i env) P ↔ QDMI env P (dctAtI env i) := by
  unfold fDMaxI
  cases dctAtI env i with
  | none => exact ⟨fun h => (ok_none.mp h).elim, fun h => h.elim⟩
  | some kvs => exact ok_bind_iff fun m => ok_some
end
end Dv

/-! # two dicts whose keys are tuples compared -/
namespace PySem.W
open PySem PySem.Calls PyProof.Rows PyProof.V PySem.Spec
section
variable {prog : Program} {w : World} {K : Type} [DecidableEq K] {knd : HeapKind prog w K} {A : Around} {E : Value → Shared → Prop} {s : Shared}
inductive HitsH (prog : Program) (w : World) (A : Around) (s : Shared) (kb : List (K × Addr × Value)) : List (K × Addr × Value) → Bool → Prop
  | nil : HitsH prog w A s kb [] true
  | miss {k : K} {p : Addr × Value} {r : List (K × Addr × Value)} : atKey kb k = none → HitsH prog w A s kb ((k, p) :: r) false
  | hit {k : K} {p q : Addr × Value} {r : List (K × Addr × Value)} {e b : Bool} : atKey kb k = some q → SeqAt.EqP prog w A s p.2 q.2 e → HitsH prog w A s kb r b → HitsH prog w A s kb ((k, p) :: r) (e && b)
theorem HitsH.inv {kb : List (K × Addr × Value)} {k : K} {p : Addr × Value} {r : List (K × Addr × Value)} {b : Bool} (h : HitsH prog w A s kb ((k, p) :: r) b) :
    (atKey kb k = none ∧ b = false) ∨ ∃ q e b', atKey kb k = some q ∧ SeqAt.EqP prog w A s p.2 q.2 e ∧ HitsH prog w A s kb r b' ∧ b = (e && b') := by
  cases h with
  | miss hn => exact .inl ⟨hn, rfl⟩
  | hit hy he hr => exact .inr ⟨_, _, _, hy, he, hr, rfl⟩
theorem samePairsH {nm : String} {a b : Addr} {ka kb : List (K × Addr × Value)} {r : Bool} {Q : Bool → Shared → Prop} (hu : knd.room A) (ha : (a == sysModules) = false) (hb : (b == sysModules) = false)
    (da : s.heap.DictOfH knd a ka) (db : s.heap.DictOfH knd b kb) (hits : ka.length = kb.length → HitsH prog w A s kb ka r) (h : Q (ka.length == kb.length && r) s) :
    wpAny (model prog w) A (Builtin.Dict.samePairs nm a b) Q E s := by
  obtain ⟨oa, es, ep, hoa, _, hda, hka, hia, hna⟩ := da
  obtain ⟨ob, es', ep', hob, _, hdb, hkb, hib, hnb⟩ := db
  have hla : ka.length = es.size := (size_of_entries hka).symm
  have hlb : kb.length = es'.size := (size_of_entries hkb).symm
  rw [hla, hlb] at h
  unfold Builtin.Dict.samePairs Builtin.Dict.showsAll
  rw [if_neg (show ¬ (a == sysModules) = true by rw [ha]; exact Bool.false_ne_true), if_neg (show ¬ (b == sysModules) = true by rw [hb]; exact Bool.false_ne_true)]
  refine wpAny_bind (wpAny_pure (wpAny_bind (wpAny_pure ?_)))
  refine wpAny_bind (wpAny_dictEntries hoa hda ?_)
  dsimp only
  refine wpAny_bind (wpAny_dictEntries hob hdb ?_)
  by_cases hsz : es.size = es'.size
  case neg =>
    rw [if_pos (by simpa using hsz)]
    have hbf : (es.size == es'.size) = false := by simpa using hsz
    rw [hbf, Bool.false_and] at h
    exact wpAny_bind (wpAny_rule (wpAny_pure h))
  case pos =>
    have h' : Q r s := by simpa [hsz] using h
    have hits' := hits (by rw [hla, hlb]; exact hsz)
    rw [if_neg (by rw [hsz]; simp)]
    refine wpAny_bind (wpAny_dictEpoch hoa hda ?_)
    refine wpAny_bind ?_
    rw [Std.Legacy.Range.forIn_eq_forIn_range']
    simp only [Std.Legacy.Range.size, Nat.sub_zero, Nat.add_sub_cancel, Nat.div_one]
    refine wpAny_forIn_list _
      (fun rest q s' => s' = s ∧ q = (none, ()) ∧ ∃ i, rest = List.range' i (es.size - i) ∧ i ≤ es.size ∧ HitsH prog w A s kb (ka.drop i) r)
      _ ?_ ?_ _ _ ⟨rfl, rfl, 0, by simp, Nat.zero_le _, hits'⟩
    · rintro x rest q s' ⟨rfl, rfl, i, hr, hi, hpre⟩
      have hlt : i < es.size := by
        rcases Nat.lt_or_ge i es.size with h | h
        · exact h
        · rw [Nat.sub_eq_zero_of_le h] at hr; simp at hr
      obtain ⟨rfl, hrest⟩ : x = i ∧ rest = List.range' (i + 1) (es.size - (i + 1)) := by
        have e : es.size - i = (es.size - (i + 1)) + 1 := by omega
        rw [e, List.range'_succ] at hr
        injection hr with h1 h2
        exact ⟨h1, h2⟩
      refine wpAny_bind (wpAny_dictEntries hoa hda ?_)
      have hlt' : x < ka.length := by rw [hla]; exact hlt
      obtain ⟨k, p, hkv⟩ : ∃ k p, ka[x] = (k, p) := ⟨_, _, rfl⟩
      have hdrop : ka.drop x = (k, p) :: ka.drop (x + 1) := by rw [← hkv]; exact List.drop_eq_getElem_cons hlt'
      have hex : es[x]? = some (entryOfKey knd (k, p)) := by rw [entry_at hka, List.getElem?_eq_getElem hlt', hkv]; rfl
      rw [hex]
      have hik : knd.is s'.heap k p.1 := hia (k, p) (by rw [← hkv]; exact List.getElem_mem hlt')
      rw [hdrop] at hpre
      show wpAny _ _ (holding [.ref p.1, p.2] _ >>= _) _ _ _
      refine wpAny_bind (wpAny_holding (wpAny_bind (wpAny_dictFind_heap (knd := knd) hu hik hob hdb hkb hib hnb ?_ ?_)))
      · intro hno
        have hn : atKey kb k = none := atKey_none_of_get hno
        rcases hpre.inv with ⟨_, er⟩ | ⟨y, _, _, hy, _⟩
        · rw [er] at h'
          refine wpAny_pure ?_
          show wpAny _ _ (if (!false) = true then _ else _) _ _ _
          rw [if_pos (by decide)]
          exact wpAny_pure (wpAny_pure h')
        · rw [hn] at hy; exact nomatch hy
      · intro j p' hj
        have hv' : atKey kb k = some p' := atKey_of_get hnb hj
        have hej : es'[j]? = some (entryOfKey knd (k, p')) := by rw [entry_at hkb, hj]; rfl
        refine wpAny_bind (wpAny_dictEntries hob hdb ?_)
        rw [hej]
        rcases hpre.inv with ⟨hn, _⟩ | ⟨y, e, b', hy, he, hrr, er⟩
        · rw [hv'] at hn; exact nomatch hn
        · have ey : p' = y := Option.some.inj (hv'.symm.trans hy)
          rw [← ey] at he
          refine wpAny_holding (he _ _ ?_)
          cases e with
          | false =>
            rw [er, Bool.false_and] at h'
            show wpAny _ _ (if (!false) = true then _ else _) _ _ _
            rw [if_pos (by decide)]
            exact wpAny_pure (wpAny_pure h')
          | true =>
            rw [Bool.true_and] at er
            rw [← er] at hrr
            show wpAny _ _ (if (!true) = true then _ else _) _ _ _
            rw [if_neg (by decide)]
            refine wpAny_bind (wpAny_dictEpoch hoa hda ?_)
            rw [if_neg (by simp)]
            exact wpAny_pure ⟨rfl, rfl, x + 1, hrest, hlt, hrr⟩
    · rintro q s' ⟨rfl, rfl, i, hr, hi, hpre⟩
      have hin : i = es.size := by
        rcases Nat.lt_or_ge i es.size with h | h
        · have e : es.size - i = (es.size - (i + 1)) + 1 := by omega
          rw [e, List.range'_succ] at hr; exact nomatch hr
        · exact Nat.le_antisymm hi h
      refine wpAny_pure ?_
      rw [hin, ← hla, List.drop_length] at hpre
      cases hpre
      exact h'
theorem ne_dictsH {a b : Addr} {ka kb : List (K × Addr × Value)} {r : Bool} {Q : Value → Shared → Prop} (hk : knd.room A.in1) (ha : (a == sysModules) = false) (hb : (b == sysModules) = false)
    (da : s.heap.DictOfH knd a ka) (db : s.heap.DictOfH knd b kb) (hu : A.units < cLine) (hits : ka.length = kb.length → HitsH prog w A.in1 s kb ka r) (h : Q (.bool (!(ka.length == kb.length && r))) s) :
    wpAny (model prog w) A (compareOp .NotEq (.ref a) (.ref b)) Q E s := by
  refine wpAny_richCompare_same_room (op := .NotEq) da.typeIs db.typeIs PySem.F.slot_dict_ne (wpAny_call_entry PySem.F.slot_dict_ne da.typeIs PySem.F.entry_dict_ne ?_ (PySem.F.args_dict_ne_2 _ _)) hu
  show wpAny _ _ (Builtin.Dict.dictSlotArgs "__ne__" ⟨[.ref a, .ref b], []⟩ >>= _) _ _ s
  refine wpAny_bind ?_
  unfold Builtin.Dict.dictSlotArgs
  refine wpAny_bind (wpAny_notOrdered_dict da.typeIs ?_)
  show wpAny _ _ (pure (Value.ref a, Value.ref b)) _ _ s
  refine wpAny_pure ?_
  refine wpAny_bind (wpAny_isInstance (T := "dict") db.typeIs PySem.F.sub_dict_dict ?_)
  simp only [Bool.not_true, Bool.false_eq_true, if_false]
  refine wpAny_bind (wpAny_pure (wpAny_bind (wpAny_pure ?_)))
  refine wpAny_bind (samePairsH hk ha hb da db hits ?_)
  refine wpAny_pure ⟨_, rfl, ?_, ?_⟩
  · exact fun x => nomatch x
  · simpa using h
end
end PySem.W
namespace Big
open PySem PySem.Spec PyProof.Rows L2
def sameI : Option V → V → Bool
  | some (.int i), .int j => j == i
  | _, _ => false
def sameK (kl kl' : List (List L2.Key × V)) : Bool := kl.length == kl'.length && kl.all fun p => sameI (valV kl' p.1) p.2
def rNeDT : R2 := fun x y H Q => ∃ (a b : Addr) (kl kl' : List (List L2.Key × V)), x = .ref a ∧ y = .ref b ∧ Rd H a (.dT kl) ∧ Rd H b (.dT kl') ∧ (∀ p, p ∈ kl → ∃ n, p.2 = V.int n) ∧ (∀ p, p ∈ kl' → ∃ n, p.2 = V.int n) ∧ Q (.bl (!sameK kl kl')) H
theorem kt_len {H : Hp} : ∀ {kl : List (List L2.Key × V)} {xs : List (List L2.Key × Addr × Value)}, KT H kl xs → kl.length = xs.length := fun r => Paired.length r
theorem hits_of {P : Program} {w : World} {A : Around} {s : Shared} {H : Hp} {kl' : List (List L2.Key × V)} {xb : List (List L2.Key × Addr × Value)} (rb : KT H kl' xb) (ib : ∀ p, p ∈ kl' → ∃ n, p.2 = V.int n) :
    ∀ {kl : List (List L2.Key × V)} {xa : List (List L2.Key × Addr × Value)}, KT H kl xa → (∀ p, p ∈ kl → ∃ n, p.2 = V.int n) → PySem.W.HitsH P w A s xb xa (kl.all fun p => sameI (valV kl' p.1) p.2) := by
  intro kl xa ra
  induction ra with
  | nil => intro _; exact .nil
  | @cons p q ps qs h t ih =>
    intro hi
    obtain ⟨h1, _, h3⟩ := h
    obtain ⟨n, hn⟩ := hi p List.mem_cons_self
    have ih' := ih fun p hp => hi p (List.mem_cons_of_mem _ hp)
    obtain ⟨k, a, v⟩ := q
    dsimp only at h1 h3
    rw [List.all_cons]
    have rv := rb.val p.1
    rw [hn] at h3 ⊢
    obtain ⟨t, rfl⟩ : ∃ t, v = Value.int n t := h3
    cases hv : valV kl' p.1 with
    | none =>
      rw [hv] at rv
      have : atKey xb k = none := by
        rw [← h1]
        cases e : atKey xb p.1 with
        | none => rfl
        | some z => rw [e] at rv; exact nomatch rv
      exact .miss this
    | some y =>
      rw [hv] at rv
      obtain ⟨m, hm⟩ : ∃ m, y = V.int m := by
        unfold valV at hv
        obtain ⟨z, hz, e⟩ := Option.map_eq_some_iff.mp hv
        obtain ⟨m, hm⟩ := ib z (List.mem_of_find?_eq_some hz)
        exact ⟨m, by rw [← e, hm]⟩
      subst hm
      cases e : atKey xb p.1 with
      | none => rw [e] at rv; exact nomatch rv
      | some z =>
        rw [e] at rv
        obtain ⟨a', v'⟩ := z
        obtain ⟨t', rfl⟩ : ∃ t', v' = Value.int m t' := rv
        exact .hit (by rw [← h1]; exact e) (SeqAt.EqAt.eqP (SeqAt.EqAt.int_int n t m t')) ih'
theorem op_neDT {X : Cx} (hu : X.A.units + 1 < cLine) : OpR X (compareOp .NotEq) rNeDT := by
  intro pins s σ H x y v u Q I rx ry h
  obtain ⟨a, b, kl, kl', rfl, rfl, ha, hb, ia, ib, q⟩ := h
  cases (show v = Value.ref a from rx)
  cases (show u = Value.ref b from ry)
  obtain ⟨z1, y1, xa, ra, da⟩ := dt_rd I.hok ha
  obtain ⟨z2, y2, xb, rb, db⟩ := dt_rd I.hok hb
  refine PySem.W.ne_dictsH (tupleKind_room_in1 hu) y1 y2 da db (by omega) (fun _ => hits_of rb ib ra ia) ?_
  rw [← kt_len ra, ← kt_len rb]
  exact ⟨.bl _, H, I, rfl, q⟩
end Big
namespace Dv
open PySem L2
def isIntD : D → Bool
  | .int _ => true
  | _ => false
theorem isIntD_of {d : D} (h : isIntD d = true) : ∃ n, d = .int n := by
  cases d with
  | int n => exact ⟨n, rfl⟩
  | _ => cases h
def sameD : Option D → D → Bool
  | some (.int i), .int j => j == i
  | _, _ => false
/-- != of two dicts whose things are whole numbers -/
def gNeDct : G2
  | .dct ks xs, .dct ls ys => if ((ks.zip xs).all fun q => isIntD q.2) = true ∧ ((ls.zip ys).all fun q => isIntD q.2) = true then
      some (.val (.bl (!((ks.zip xs).length == (ls.zip ys).length && (ks.zip xs).all fun q => sameD (kVal (ls.zip ys) q.1) q.2)))) else none
  | _, _ => none
section
variable {K : PySem.W.Frag} {G : Hp}
theorem DqK.ints : ∀ {kl : List (List L2.Key × V)} {kvs : List (List Int × D)}, DqK K G kl kvs → (kvs.all fun q => isIntD q.2) = true → ∀ p, p ∈ kl → ∃ n, p.2 = V.int n
  | [], [], _, _ => fun p hp => nomatch hp
  | [], _ :: _, h, _ => h.elim
  | _ :: _, [], h, _ => h.elim
  | p :: kl, q :: kvs, h, e => by
    obtain ⟨_, h2, h3⟩ := h
    rw [List.all_cons, Bool.and_eq_true] at e
    intro r hr
    rcases List.mem_cons.mp hr with z | z
    · rw [z]
      obtain ⟨k, d⟩ := q
      obtain ⟨pk, pv⟩ := p
      dsimp only at h2 e ⊢
      obtain ⟨n, rfl⟩ := isIntD_of e.1
      cases h2
      exact ⟨_, rfl⟩
    · exact DqK.ints h3 e.2 r z
theorem DqK.same {kl' : List (List L2.Key × V)} {kvs' : List (List Int × D)} (h' : DqK K G kl' kvs') (i' : (kvs'.all fun q => isIntD q.2) = true) : ∀ {kl : List (List L2.Key × V)} {kvs : List (List Int × D)}, DqK K G kl kvs → (kvs.all fun q => isIntD q.2) = true →
    (kl.all fun p => Big.sameI (valV kl' p.1) p.2) = kvs.all fun q => sameD (kVal kvs' q.1) q.2
  | [], [], _, _ => rfl
  | [], _ :: _, h, _ => h.elim
  | _ :: _, [], h, _ => h.elim
  | p :: kl, q :: kvs, h, e => by
    obtain ⟨h1, h2, h3⟩ := h
    rw [List.all_cons, Bool.and_eq_true] at e
    rw [List.all_cons, List.all_cons, DqK.same h' i' h3 e.2]
    congr 1
    rw [h1]
    obtain ⟨k, d⟩ := q
    dsimp only at h2 e ⊢
    obtain ⟨n, rfl⟩ := isIntD_of e.1
    obtain ⟨pk, pv⟩ := p
    dsimp only at h2 ⊢
    cases h2
    rcases h'.val k with ⟨z1, z2⟩ | ⟨v, d', z1, z2, z3⟩
    · rw [show valV kl' (List.map Sum.inl k) = none from z1, z2]
      rfl
    · rw [show valV kl' (List.map Sum.inl k) = some v from z1, z2]
      have hd : isIntD d' = true := by
        unfold kVal at z2
        obtain ⟨z, hz, e⟩ := Option.map_eq_some_iff.mp z2
        rw [← e]
        exact List.all_eq_true.mp i' z (List.mem_of_find?_eq_some hz)
      obtain ⟨n', rfl⟩ := isIntD_of hd
      cases z3
      rfl
theorem op2_neDct : Op2 K Big.rNeDT gNeDct := by
  intro B O I σ H env x y ra rb d e z P1 P2 e1 e2 ez Q q
  unfold gNeDct at ez
  split at ez
  · rename_i ks xs ls ys
    split at ez
    · rename_i hi
      cases ez
      obtain ⟨p, kl, rfl, hp, hd⟩ := P1.dict e1
      obtain ⟨p', kl', rfl, hp', hd'⟩ := P2.dict e2
      refine ⟨p, p', kl, kl', rfl, rfl, hp, hp', hd.ints hi.1, hd'.ints hi.2, ?_⟩
      unfold Big.sameK
      rw [hd.len, hd'.len, hd'.same hi.2 hd hi.1]
      exact q _ _ ⟨P1.sta, .bl _⟩
    · cases ez
  · cases ez
end
end Dv

/-! # a new tuple of new lists: told by a def, then taken apart: its parts are owned -/
namespace Dv
open PySem L2
section
variable {K : PySem.W.Frag} {B : Hp} {O : List Addr} {I : List (Nat × Addr)} {σ : L2.St} {H H' : Hp} {env env' : Env} {v : V} {t ta tb te : TE} {f fa fb fe : EF} {W : WN}
/-! ## made -/
def fTupW (fn : NF) : EF := fun env => (fn env).bind fun a => if a.1.length ≤ 1000 then some (.tw a.1, a.2) else none
theorem snd_tupW {t : TA} {fn : NF} (h : SndN K t fn) : Snd K (tTup t) (fTupW fn) := by
  intro B O I σ H env rv env' S e Q q
  obtain ⟨⟨dss, env1⟩, e1, e⟩ := bnd e
  dsimp only at e
  split at e
  · rename_i hl
    cases e
    refine h B O I σ H env dss _ S e1 _ fun qs H1 F => ?_
    have ll := F.ls.len
    refine ⟨by rw [List.length_map, ll]; exact line_of (by omega), fun p hp => q _ _ ?_⟩
    have pq : p ∉ qs := fun z => by
      obtain ⟨xs, y⟩ := F.ls.dom p z
      rw [hp] at y
      cases y
    have up : Same H1 (upd H1 p (.tup (qs.map V.ref))) := same_new hp
    have keep : ∀ a, a ∈ qs → upd H1 p (.tup (qs.map V.ref)) a = H1 a := fun a ha => upd_ne fun z => pq (z ▸ ha)
    exact ⟨p, qs, rfl, upd_same, F.nd, F.fre, F.sta.grow (mi_mono up), LsOk.mono (mi_mono up) keep F.ls⟩
  · cases e
/-! ## a thing that nobody owns gets an owner -/
theorem Sta.claim {j : Nat} {q : Addr} {xs : List V} {ds : List D} {o : HO} (S : Sta K B O I σ H env) (hj : env[j]? = some (.fz (.adr q))) (hq : q ∈ O) (hH : H q = some (.lst xs)) (hd : DqA K (mi H O) xs ds) (hB : B q = some o) :
    Sta K (mi B [q]) O I σ H (env.set j (.o1 ds)) := by
  have lj : j < env.length := (List.getElem?_eq_some_iff.mp hj).1
  have gj : (env.set j (SV.o1 ds))[j]? = some (.o1 ds) := List.getElem?_set_self lj
  have get : ∀ i, i ≠ j → (env.set j (SV.o1 ds))[i]? = env[i]? := fun i c => List.getElem?_set_ne (Ne.symm c)
  have sj : σ[j]? = some (some (.ref q)) := by
    obtain ⟨v, h1, h2⟩ := S.fz j _ hj
    cases h2
    exact h1
  have bn : ∀ a, B a = none → mi B [q] a = none := fun a h => by
    unfold mi
    split
    · rfl
    · exact h
  have own : ∀ i es, OwnAt (env.set j (.o1 ds)) i es → (i = j ∧ es = ds) ∨ (i ≠ j ∧ OwnAt env i es) := fun i es h => by
    by_cases c : i = j
    · subst c
      unfold OwnAt at h
      rw [gj] at h
      rcases h with z | z <;> cases z
      exact .inl ⟨rfl, rfl⟩
    · refine .inr ⟨c, ?_⟩
      unfold OwnAt at h ⊢
      rw [get i c] at h
      exact h
  have far : ∀ i es, OwnAt env i es → σ[i]? ≠ some (some (.ref q)) := fun i es h z => by
    obtain ⟨p, ys, k1, _, _, _, k5⟩ := S.ow i es h
    rw [z] at k1
    cases k1
    rw [hB] at k5
    cases k5
  refine ⟨by rw [List.length_set]; exact S.len, fun i d hi => ?_, fun i es hi => ?_, fun i k es fs p h1 h2 e1 e2 => ?_, mi_same.trans S.base, S.dom, fun i p hp => ?_, fun i w hi => ?_, S.nt⟩
  · by_cases c : i = j
    · subst c
      rw [gj] at hi
      cases hi
    · rw [get i c] at hi
      exact S.fz i d hi
  · rcases own i es hi with ⟨rfl, rfl⟩ | ⟨c, h⟩
    · exact ⟨q, xs, sj, hq, hH, hd, mi_in (List.mem_singleton.mpr rfl)⟩
    · obtain ⟨p, ys, k1, k2, k3, k4, k5⟩ := S.ow i es h
      exact ⟨p, ys, k1, k2, k3, k4, bn _ k5⟩
  · rcases own i es h1 with ⟨rfl, rfl⟩ | ⟨c1, y1⟩
    · rcases own k fs h2 with ⟨rfl, rfl⟩ | ⟨c2, y2⟩
      · rfl
      · rw [sj] at e1
        cases e1
        exact absurd e2 (far k fs y2)
    · rcases own k fs h2 with ⟨rfl, rfl⟩ | ⟨c2, y2⟩
      · rw [sj] at e2
        cases e2
        exact absurd e1 (far i es y1)
      · exact S.sep i k es fs p y1 y2 e1 e2
  · obtain ⟨y1, es, y2⟩ := S.pin i p hp
    refine ⟨y1, es, ?_⟩
    rw [get i fun z => ?_]
    · exact y2
    · subst z
      rw [hj] at y2
      cases y2
  · have c : i ≠ j := fun z => by
      subst z
      rw [gj] at hi
      cases hi
    rw [get i c] at hi
    obtain ⟨p, a1, a2, a3, a4, a5, a6⟩ := S.nw i w hi
    refine ⟨p, a1, a2, a3, fun a ha => ⟨(a4 a ha).1, bn _ (a4 a ha).2⟩, fun k es a hk e => ?_, fun k w' r hk hw e => ?_⟩
    · rcases own k es hk with ⟨rfl, rfl⟩ | ⟨c2, y2⟩
      · rw [sj] at e
        cases e
        intro z
        have := (a4 _ z).2
        rw [hB] at this
        cases this
      · exact a5 k es a y2 e
    · have c2 : k ≠ j := fun z => by
        subst z
        rw [gj] at hw
        cases hw
      rw [get k c2] at hw
      exact a6 k w' r hk hw e
/-! ## x = call; .. ; a, b = x; .. -/
def adrT (qs : List Addr) : D := .tup (qs.map D.adr)
/-- how the names are between -/
def TwOk (i j k : Nat) (mid : SFn) (A C : List D) (e0 e4 : Env) : Prop := ∀ q1 q2 : Addr, ∃ e1 e2 e3, putS i (.fz (adrT [q1, q2])) e0 = some e1 ∧ mid e1 = some (.nx e2) ∧
  fAsg (fVar i) (gfTup 2 (gfCons (gfName j) (gfCons (gfName k) gfNil))) e2 = some (.nx e3) ∧ e3[j]? = some (.fz (.adr q1)) ∧ e3[k]? = some (.fz (.adr q2)) ∧ j ≠ k ∧ putS i .no ((e3.set j (.o1 A)).set k (.o1 C)) = some e4
open Classical in
noncomputable def fTw (i j k : Nat) (fe : EF) (mid rest : SFn) : SFn := fun env => (fe env).bind fun a => match a.1 with
  | .tw [A, C] => if h : ∃ e4, TwOk i j k mid A C a.2 e4 then rest (choose h) else none
  | _ => none
theorem Sta.dropSame {i : Nat} (S : Sta K B O I σ H env) (e : putS i .no env = some env') : Sta K B O I σ H env' := by
  have h := S.drop (w := (σ[i]?).join) e
  have li : i < σ.length := by
    obtain ⟨_, h2, _⟩ := putS_of e
    rw [S.len]
    exact h2
  have : σ.set i (σ[i]?).join = σ := by
    rw [List.getElem?_eq_getElem li]
    exact List.set_getElem_self li
  rw [this] at h
  exact h
theorem ss_tw {i j k : Nat} {tm tr : TS} {mid rest : SFn} (h1 : Snd K te fe) (hm : SndS K W tm mid) (hr : SndS K W tr rest) :
    SndS K W (tSeq (tAsg te (gName i)) (tSeq tm (tSeq (tAsg (tVar i) (gTup K 2 (gCons (gName j) (gCons (gName k) gNil)))) tr))) (fTw i j k fe mid rest) := by
  intro B O I σ H env o S e D kk
  unfold fTw at e
  obtain ⟨⟨r1, env1⟩, e1, e⟩ := bnd e
  dsimp only at e
  split at e
  · rename_i A C
    split at e
    · rename_i h
      have sp := Classical.choose_spec h
      generalize Classical.choose h = e4 at sp e
      refine h1 B O I σ H env _ _ S e1 _ fun v H1 P => ?_
      obtain ⟨p, qs, rfl, hp, hnd, hfr, S0, hls⟩ := P
      match qs, hls with
      | [q1, q2], hls =>
        obtain ⟨⟨xs1, a1, a2⟩, ⟨xs2, b1, b2⟩, _⟩ := hls
        have hne : q1 ≠ q2 := by
          have := (List.nodup_cons.mp hnd).1
          exact fun z => this (z ▸ List.mem_cons_self)
        obtain ⟨f1, o1⟩ := hfr q1 List.mem_cons_self
        obtain ⟨f2, o2⟩ := hfr q2 (List.mem_cons_of_mem _ List.mem_cons_self)
        have em : mi H1 [q1, q2] = mi (mi H1 [q2]) [q1] := by
          rw [mi_cat]
          exact mi_ext fun a => by simp [or_comm]
        rw [em] at S0
        have S1 := S0.show (D := q1) (o := .lst xs1) (mi_of (fun z => hne (List.mem_singleton.mp z)) a1)
        have S2 := S1.show (D := q2) (o := .lst xs2) b1
        generalize hB1 : upd (upd B q1 (.lst xs1)) q2 (.lst xs2) = B1 at S2
        have k1 : keepH σ env1 H1 q1 = some (.lst xs1) := S2.not_own (by rw [← hB1, upd_ne hne]; exact upd_same)
        have k2 : keepH σ env1 H1 q2 = some (.lst xs2) := S2.not_own (by rw [← hB1]; exact upd_same)
        have bk : Same B (keepH σ env1 H1) := fun a u y => by
          refine S2.base_keep a u ?_
          rw [← hB1]
          have n1 : a ≠ q1 := fun z => by rw [z, f1] at y; cases y
          have n2 : a ≠ q2 := fun z => by rw [z, f2] at y; cases y
          rw [upd_ne n2, upd_ne n1]
          exact y
        have S3 := S2.strong
        have kn : ∀ a u, a ∉ q2 :: q1 :: O → H1 a = some u → keepH σ env1 H1 a = some u := fun a u n y => by
          rw [keepH_not fun z => n (S2.owns_in z)]
          exact y
        generalize hB2 : keepH σ env1 H1 = B2 at k1 k2 bk S3 kn
        obtain ⟨e5, e6, e7, g1, g2, g3, g4, g5, g6, g7⟩ := sp q1 q2
        have pO : p ∉ q2 :: q1 :: O := fun z => by
          rcases List.mem_cons.mp z with y | z
          · rw [y, b1] at hp
            cases hp
          · rcases List.mem_cons.mp z with y | z
            · rw [y, a1] at hp
              cases hp
            · exact S2.nt p _ (List.mem_cons_of_mem _ (List.mem_cons_of_mem _ z)) hp
        have dq : Dq K (mi H1 (q2 :: q1 :: O)) (.ref p) (adrT [q1, q2]) := .tup (.inl (.inl (mi_of pO hp))) (.cons (.adr q1) (.cons (.adr q2) .nil))
        refine sg_name i B2 (q2 :: q1 :: O) I σ H1 env1 (.ref p) _ e5 S3 dq g1 _ fun σ2 S4 => ?_
        refine hm B2 (q2 :: q1 :: O) I σ2 H1 e5 _ S4 g2 _ ?_
        intro O3 σ3 H3 s3 S5
        refine ss_asg (W := W) (snd_var i) (sg_tup (sgs_cons (sg_name j) (sgs_cons (sg_name k) sgs_nil))) B2 O3 I σ3 H3 e6 _ S5 g3 _ ?_
        intro O4 σ4 H4 s4 S6
        have s5 := s3.trans s4
        have in1 : q1 ∈ O4 := s5.1 q1 (List.mem_cons_of_mem _ List.mem_cons_self) (.inl (by rw [k1]; exact fun z => by cases z))
        have in2 : q2 ∈ O4 := s5.1 q2 List.mem_cons_self (.inl (by rw [k2]; exact fun z => by cases z))
        have sm : ∀ a u, a ∉ q2 :: q1 :: O → H1 a = some u → mi H4 O4 a = some u := fun a u n y => by
          have kb := kn a u n y
          refine mi_of (fun z => ?_) (S6.base _ _ kb)
          rcases s5.2 a z with w | w
          · exact n w
          · rw [kb] at w
            cases w
        have sm2 : Same (mi H1 ([q1, q2] ++ O)) (mi H4 O4) := fun a u y => by
          obtain ⟨y1, y2⟩ := mi_some y
          refine sm a u (fun z => y1 ?_) y2
          rcases List.mem_cons.mp z with w | z
          · rw [w]
            exact List.mem_append_left _ (List.mem_cons_of_mem _ List.mem_cons_self)
          · rcases List.mem_cons.mp z with w | z
            · rw [w]
              exact List.mem_append_left _ List.mem_cons_self
            · exact List.mem_append_right _ z
        have c1 := S6.claim g4 in1 (S6.base _ _ k1) (DqA.mono sm2 _ _ a2) k1
        have g5' : (e7.set j (SV.o1 A))[k]? = some (.fz (.adr q2)) := by
          rw [List.getElem?_set_ne g6]
          exact g5
        have k2' : mi B2 [q1] q2 = some (.lst xs2) := mi_of (fun z => hne (List.mem_singleton.mp z).symm) k2
        have c2 := c1.claim g5' in2 (S6.base _ _ k2) (DqA.mono sm2 _ _ b2) k2'
        have c3 := c2.dropSame g7
        have sb : Same B (mi (mi B2 [q1]) [q2]) := fun a u y => by
          have n1 : a ≠ q1 := fun z => by rw [z, f1] at y; cases y
          have n2 : a ≠ q2 := fun z => by rw [z, f2] at y; cases y
          exact mi_of (fun z => n2 (List.mem_singleton.mp z)) (mi_of (fun z => n1 (List.mem_singleton.mp z)) (bk _ _ y))
        have c4 := c3.weak sb
        refine hr B O4 I σ4 H4 e4 o c4 e D (kk.sub ⟨fun a ha hx => ?_, fun a ha => ?_⟩)
        · refine s5.1 a (List.mem_cons_of_mem _ (List.mem_cons_of_mem _ ha)) (hx.imp (fun n y => ?_) id)
          cases hb : B a with
          | none => exact n hb
          | some u =>
            rw [bk _ _ hb] at y
            cases y
        · rcases s5.2 a ha with w | w
          · rcases List.mem_cons.mp w with w | w
            · rw [w]
              exact .inr f2
            · rcases List.mem_cons.mp w with w | w
              · rw [w]
                exact .inr f1
              · exact .inl w
          · exact .inr (bk.free w)
    · cases e
  · cases e
end
/-! ## wishes -/
section
variable {env e : Env} {P : RV × Env → Prop} {PO : Out → Prop} {fn : NF} {fe : EF} {mid rest : SFn} {i j k : Nat} {A C : List D} {e4 : Env}
def KTupW (P : RV × Env → Prop) : List (List D) × Env → Prop := fun a => a.1.length ≤ 1000 ∧ P (.tw a.1, a.2)
theorem k_tupW {dss : List (List D)} : KTupW P (dss, e) ↔ dss.length ≤ 1000 ∧ P (.tw dss, e) := Iff.rfl
theorem w_tupW : Ok (fTupW fn env) P ↔ Ok (fn env) (KTupW P) := by
  refine ok_bind_iff fun ⟨r, e⟩ => ?_
  dsimp only
  rw [ok_guard]
  exact and_congr Iff.rfl ok_some
theorem k_finXt {io : List Bool} {PX : Except Nat (D × Bool × List (List D)) → Prop} {dss : List (List D)} : KFinX io PX (.rt (.tw dss) e) ↔ outF io (.tup (dss.map D.lst)) true e fun r => PX (.ok r) := Iff.rfl
theorem resR_2 {a b : List D} {outs : List (List D)} : resR (.tup [.lst a, .lst b], true, outs) = some (.tw [a, b]) := rfl
theorem k_resW {bor : List Nat} {outs outs' : List (List D)} {a b : List D} : KRes bor outs (.tup [.lst a, .lst b], true, outs') P e ↔ (bor.isEmpty && outs.all (fun ds => bor.isEmpty || noLs ds)) = true ∧ P (.tw [a, b], e) := Iff.rfl
theorem k_backXw {bor : List Nat} {a b : List D} : KBackX bor e P (.ok (.tup [.lst a, .lst b], true, [])) ↔ bor.isEmpty = true ∧ P (.tw [a, b], e) := by
  unfold KBackX
  dsimp only
  rw [show resR (.tup [.lst a, .lst b], true, []) = some (.tw [a, b]) from rfl, ok_some]
  exact ⟨fun h => h.2, fun h => ⟨rfl, h⟩⟩
theorem TwOk.uniq {e0 e4' : Env} (h : TwOk i j k mid A C e0 e4) (h' : TwOk i j k mid A C e0 e4') : e4 = e4' := by
  obtain ⟨e1, e2, e3, g1, g2, g3, _, _, _, g7⟩ := h 0 0
  obtain ⟨e1', e2', e3', g1', g2', g3', _, _, _, g7'⟩ := h' 0 0
  rw [g1] at g1'
  cases g1'
  rw [g2] at g2'
  cases g2'
  rw [g3] at g3'
  cases g3'
  rw [g7] at g7'
  cases g7'
  rfl
theorem w_tw_of (h : Ok (fe env) fun a => ∃ A C e4, a.1 = .tw [A, C] ∧ TwOk i j k mid A C a.2 e4 ∧ Ok (rest e4) PO) : Ok (fTw i j k fe mid rest env) PO := by
  obtain ⟨⟨r, e0⟩, ea, A, C, e4, h1, h2, h3⟩ := h
  dsimp only at h1 h2
  subst h1
  unfold fTw
  rw [ea, Option.bind_some]
  dsimp only
  have ex : ∃ e4, TwOk i j k mid A C e0 e4 := ⟨e4, h2⟩
  rw [dif_pos ex, (Classical.choose_spec ex).uniq h2]
  exact h3
theorem ok_is {o : Out} {g : SFn} (h : Ok (g env) fun x => x = o) : g env = some o := by
  obtain ⟨x, h1, h2⟩ := h
  rw [h1, h2]
end
end Dv

/-! # list(zip(xs, ys)) of two lists -/
namespace Zl
open PySem PySem.Spec PyProof.Rows L2
theorem no_len : typeLookup (.type "zip") "__len__" = pure none := am_miss_of_fast (by decide +kernel)
theorem no_hint : typeLookup (.type "zip") "__length_hint__" = pure none := am_miss_of_fast (by decide +kernel)
abbrev lsO (acc : Array Value) (c : Nat) : Obj := { cls := .type "list", dict := none, data := .seq acc c, slots := #[] }
/-- the zip as it stands while its pairs are put into the list S -/
structure At (h : Heap) (S z TI TO i1 i2 l1 l2 : Addr) (xs ys : Array Value) (i : Nat) : Prop where
  ti : IsPair h TI (.ref i1) (.ref i2)
  a1 : h.IsListIter i1 l1 i
  a2 : h.IsListIter i2 l2 i
  b1 : h.IsList l1 xs
  b2 : h.IsList l2 ys
  to : ∃ a b, IsPair h TO a b
  st : IsZip h z TI TO .none ∨ ∃ T f oT, IsZipHeld h z TI TO T f ∧ h.get? T = some oT ∧ T ≠ z ∧ T ≠ i1 ∧ T ≠ i2 ∧ T ≠ S
theorem At.go {h h' : Heap} {S z TI TO i1 i2 l1 l2 : Addr} {xs ys : Array Value} {i : Nat} (a : At h S z TI TO i1 i2 l1 l2 xs ys i) (hS : S ∉ [z, TI, TO, i1, i2, l1, l2]) (k : ∀ b o, b ≠ S → h.get? b = some o → h'.get? b = some o) : At h' S z TI TO i1 i2 l1 l2 xs ys i := by
  simp only [List.mem_cons, List.not_mem_nil, or_false, not_or] at hS
  obtain ⟨d1, d2, d3, d4, d5, d6, d7⟩ := hS
  obtain ⟨u, v, q⟩ := a.to
  refine ⟨k _ _ (Ne.symm d2) a.ti, a.a1.at fun o e => k _ o (Ne.symm d4) e, a.a2.at fun o e => k _ o (Ne.symm d5) e, a.b1.at fun o e => k _ o (Ne.symm d6) e, a.b2.at fun o e => k _ o (Ne.symm d7) e, ⟨u, v, k _ _ (Ne.symm d3) q⟩, ?_⟩
  rcases a.st with p | ⟨T, f, oT, p, q, r1, r2, r3, r4⟩
  · exact .inl (k _ _ (Ne.symm d1) p)
  · exact .inr ⟨T, f, oT, k _ _ (Ne.symm d1) p, k _ _ r4 q, r1, r2, r3, r4⟩
theorem At.there {h : Heap} {S z TI TO i1 i2 l1 l2 : Addr} {xs ys : Array Value} {i : Nat} (a : At h S z TI TO i1 i2 l1 l2 xs ys i) : ∀ b, b ∈ [z, TI, TO, i1, i2] → ∃ o, h.get? b = some o := fun b hb => by
  obtain ⟨u, v, q⟩ := a.to
  obtain ⟨o1, e1, _⟩ := a.a1
  obtain ⟨o2, e2, _⟩ := a.a2
  have hz : ∃ o, h.get? z = some o := by
    rcases a.st with p | ⟨T, f, oT, p, _⟩
    · exact ⟨_, p⟩
    · exact ⟨_, p⟩
  simp only [List.mem_cons, List.not_mem_nil, or_false] at hb
  rcases hb with e | e | e | e | e <;> subst e
  · exact hz
  · exact ⟨_, a.ti⟩
  · exact ⟨_, q⟩
  · exact ⟨_, e1⟩
  · exact ⟨_, e2⟩
/-- the pairs that lie in the list -/
structure Has (h0 h : Heap) (S z TI TO i1 i2 : Addr) (xs ys : Array Value) (Ts : List Addr) (acc : Array Value) (c : Nat) : Prop where
  lst : h.get? S = some (lsO acc c)
  is : acc.toList = Ts.map Value.ref
  prs : ∀ (j : Nat) (T : Addr), Ts[j]? = some T → ∃ u v, xs[j]? = some u ∧ ys[j]? = some v ∧ IsPair h T u v ∧ h0.objs.size ≤ T ∧ T ∉ [S, z, TI, TO, i1, i2]
  nod : Ts.Nodup
  kept : ∀ b o, h0.get? b = some o → h.get? b = some o
theorem Has.go {h0 h h' : Heap} {S z TI TO i1 i2 : Addr} {xs ys : Array Value} {Ts : List Addr} {acc : Array Value} {c : Nat} (a : Has h0 h S z TI TO i1 i2 xs ys Ts acc c) (d : S ∉ [z, TO, i1, i2]) (new : ∀ b, b ∈ [S, z, TI, TO, i1, i2] → h0.objs.size ≤ b)
    (k : ∀ b o, b ∉ [z, TO, i1, i2] → h.get? b = some o → h'.get? b = some o) : Has h0 h' S z TI TO i1 i2 xs ys Ts acc c := by
  refine ⟨k _ _ d a.lst, a.is, fun j T e => ?_, a.nod, fun b o e => k _ _ (fun hb => ?_) (a.kept b o e)⟩
  · obtain ⟨u, v, p1, p2, p3, p4, p5⟩ := a.prs j T e
    refine ⟨u, v, p1, p2, k _ _ (fun hb => p5 ?_) p3, p4, p5⟩
    simp only [List.mem_cons, List.not_mem_nil, or_false] at hb ⊢
    rcases hb with e | e | e | e <;> simp [e]
  · have := new b (by
      simp only [List.mem_cons, List.not_mem_nil, or_false] at hb ⊢
      rcases hb with e | e | e | e <;> simp [e])
    exact absurd (Nat.lt_of_lt_of_le (Heap.lt_size e) this) (Nat.lt_irrefl _)
theorem Has.push {h0 h h' : Heap} {S z TI TO i1 i2 : Addr} {xs ys : Array Value} {Ts : List Addr} {acc : Array Value} {c c' : Nat} {T : Addr} {u v : Value} (a : Has h0 h S z TI TO i1 i2 xs ys Ts acc c) (hS : S ≠ T) (h0S : h0.objs.size ≤ S) (hu : xs[Ts.length]? = some u) (hv : ys[Ts.length]? = some v)
    (hT : IsPair h T u v) (h1 : h0.objs.size ≤ T) (h2 : T ∉ [S, z, TI, TO, i1, i2]) (h3 : T ∉ Ts) (e : h'.get? S = some (lsO (acc.push (.ref T)) c')) (k : ∀ b o, b ≠ S → h.get? b = some o → h'.get? b = some o) : Has h0 h' S z TI TO i1 i2 xs ys (Ts ++ [T]) (acc.push (.ref T)) c' := by
  refine ⟨e, by rw [Array.toList_push, a.is, List.map_append]; rfl, fun j T' e => ?_, ?_, fun b o eo => k _ _ (fun hb => ?_) (a.kept b o eo)⟩
  · rw [List.getElem?_append] at e
    split at e
    · obtain ⟨u, v, p1, p2, p3, p4, p5⟩ := a.prs j T' e
      exact ⟨u, v, p1, p2, k _ _ (fun z => p5 (by rw [z]; exact List.mem_cons_self)) p3, p4, p5⟩
    · have hj : j = Ts.length := by
        have := (List.getElem?_eq_some_iff.mp e).1
        simp at this
        omega
      subst hj
      rw [Nat.sub_self] at e
      cases e
      exact ⟨u, v, hu, hv, k _ _ (Ne.symm hS) hT, h1, h2⟩
  · refine List.nodup_append.mpr ⟨a.nod, List.pairwise_singleton _ _, fun x hx y hy => ?_⟩
    rw [List.mem_singleton.mp hy]
    intro z
    rw [z] at hx
    exact h3 hx
  · subst hb
    exact absurd (Nat.lt_of_lt_of_le (Heap.lt_size eo) h0S) (Nat.lt_irrefl _)
section
variable {prog : Program} {w : World} {A : Around} {s : Shared} {R : Result → Shared → Prop} {S z TI TO i1 i2 l1 l2 : Addr} {xs ys : Array Value} {res : Value} {h0 : Heap}
theorem loop (hh : A.handled = none) (D : ZipApart z TI TO i1 i2 l1 l2) (hS : S ∉ [z, TI, TO, i1, i2, l1, l2]) (new : ∀ b, b ∈ [S, z, TI, TO, i1, i2] → h0.objs.size ≤ b) (hn : min xs.size ys.size ≤ sizeLine) :
    ∀ (k i : Nat) (s : Shared) (Ts : List Addr) (acc : Array Value) (c : Nat), min xs.size ys.size - i = k → i ≤ min xs.size ys.size → At s.heap S z TI TO i1 i2 l1 l2 xs ys i → Has h0 s.heap S z TI TO i1 i2 xs ys Ts acc c → Ts.length = i →
    (∀ h' Ts acc c, Has h0 h' S z TI TO i1 i2 xs ys Ts acc c → Ts.length = min xs.size ys.size → R (.ok (.ret res)) { s with heap := h' }) → codeAny (model prog w) A (.builtin "list.extend.loop" ⟨[.ref S, .ref z, res], []⟩) R s := by
  have dS : S ∉ [z, TO, i1, i2] := fun hb => hS (by
    simp only [List.mem_cons, List.not_mem_nil, or_false] at hb ⊢
    rcases hb with e | e | e | e <;> simp [e])
  intro k
  induction k with
  | zero =>
    intro i s Ts acc c hk hi a has hl fin
    have hend : xs[i]? = none ∨ ys[i]? = none := by
      rcases Nat.le_total xs.size ys.size with h | h
      · exact .inl (Array.getElem?_eq_none (by omega))
      · exact .inr (Array.getElem?_eq_none (by omega))
    refine codeAny_builtin F.entry_extend_loop ?_; rw [Around.under_plainId F.plain_extend_loop _]
    show wpAny _ A.in1 (pyNext (.ref z) >>= _) _ _ s
    obtain ⟨u, v, hTO⟩ := a.to
    rcases a.st with p | ⟨T, f, oT, p, q, r1, r2, r3, r4⟩
    · refine wpAny_bind (wpAny_pyNext_zip_end hh D p a.ti hTO a.a1 a.a2 a.b1 a.b2 hend fun h' hk => wpAny_pure (fin h' Ts acc c (has.go dS new fun b o hb e => ?_) (by omega)))
      simp only [List.mem_cons, List.not_mem_nil, or_false, not_or] at hb
      exact hk _ _ hb.1 hb.2.1 hb.2.2.1 hb.2.2.2 e
    · refine wpAny_bind (wpAny_pyNext_zip_end_held hh D p q a.ti a.a1 a.a2 a.b1 a.b2 hend fun h' hk => wpAny_pure (fin h' Ts acc c (has.go dS new fun b o hb e => ?_) (by omega)))
      simp only [List.mem_cons, List.not_mem_nil, or_false, not_or] at hb
      exact hk _ _ hb.1 hb.2.2.1 hb.2.2.2 e
  | succ k ih =>
    intro i s Ts acc c hk hi a has hl fin
    have hix : i < xs.size := by omega
    have hiy : i < ys.size := by omega
    have ex := Array.getElem?_eq_getElem hix
    have ey := Array.getElem?_eq_getElem hiy
    have asz : acc.size = i := by rw [← hl, ← Array.length_toList, has.is, List.length_map]
    refine codeAny_builtin F.entry_extend_loop ?_; rw [Around.under_plainId F.plain_extend_loop _]
    show wpAny _ A.in1 (pyNext (.ref z) >>= _) _ _ s
    have apart : ∀ b o, s.heap.get? b = some o → s.heap.objs.size ≠ b := fun b o e => Nat.ne_of_gt (Heap.lt_size e)
    have thr := a.there
    have nS := apart _ _ has.lst
    have nT : s.heap.objs.size ∉ [S, z, TI, TO, i1, i2] := fun hb => by
      rcases List.mem_cons.mp hb with e | e
      · exact nS e
      · obtain ⟨o, ho⟩ := thr _ e
        exact apart _ _ ho rfl
    have nTs : s.heap.objs.size ∉ Ts := fun hb => by
      obtain ⟨j, e⟩ := List.mem_iff_getElem?.mp hb
      obtain ⟨u, v, _, _, p, _⟩ := has.prs j _ e
      exact apart _ _ p rfl
    have old : h0.objs.size ≤ s.heap.objs.size := by
      have h1 := new S List.mem_cons_self
      have h2 := Heap.lt_size has.lst
      exact Nat.le_trans h1 (Nat.le_of_lt h2)
    have nmem : ∀ b, b ∈ [z, TI, TO, i1, i2] → s.heap.objs.size ≠ b := fun b hb e => by
      obtain ⟨o, ho⟩ := thr b hb
      exact apart _ _ ho e
    have step : ∀ h' : Heap, At h' S z TI TO i1 i2 l1 l2 xs ys (i + 1) → IsPair h' s.heap.objs.size xs[i] ys[i] → (∀ b o, b ∉ [z, TO, i1, i2] → s.heap.get? b = some o → h'.get? b = some o) →
        wpAny (model prog w) A.in1 (updateSeq S (·.push (.ref s.heap.objs.size)) >>= fun _ => again (.builtin "list.extend.loop" ⟨[.ref S, .ref z, res], []⟩)) (fun fin s' => match fin with | .done f => R (.ok f) s' | .again c' => c'.quiet = true ∧ codeAny (model prog w) A c' R s') (fun e s' => R (.error e) s') { s with heap := h' } := fun h' a' pr kp => by
      have has' := has.go dS new kp
      have other : ∀ b o, b ≠ S → h'.get? b = some o → (h'.update S (Obj.mapSeq (·.push (.ref s.heap.objs.size)))).get? b = some o := fun b o hb e => (Heap.get?_update_other _ _ (Ne.symm hb)).trans e
      refine wpAny_bind (wpAny_updateSeq (s := { s with heap := h' }) has'.lst rfl (wpAny_pure ⟨plainId_quiet F.plain_extend_loop _, ?_⟩) (by rw [asz]; omega) (by show (acc.push _).size ≤ sizeLine + 1; rw [Array.size_push, asz]; omega))
      have self := Heap.get?_update_self (Obj.mapSeq (·.push (Value.ref s.heap.objs.size))) has'.lst rfl
      refine ih (i + 1) _ (Ts ++ [s.heap.objs.size]) _ _ (by omega) (by omega) (a'.go hS other) (has'.push (Ne.symm nS) (new S List.mem_cons_self) (by rw [hl]; exact ex) (by rw [hl]; exact ey) pr old nT nTs self other) (by rw [List.length_append, hl]; rfl) fin
    obtain ⟨u, v, hTO⟩ := a.to
    rcases a.st with p | ⟨T, f, oT, p, q, r1, r2, r3, r4⟩
    · refine wpAny_bind (wpAny_pyNext_zip_item D p a.ti hTO a.a1 a.a2 a.b1 a.b2 ex ey fun h' q1 q2 q3 q4 q5 q6 hk => step h' ⟨hk _ _ D.TIz D.TITO D.TIi1 D.TIi2 a.ti, q3, q4, ?_, ?_, ⟨_, _, q2⟩, .inr ⟨s.heap.objs.size, false, _, q1, q5, ?_, ?_, ?_, nS⟩⟩ q5 fun b o hb e => ?_)
      · exact a.b1.at fun o e => hk _ o D.l1z D.l1TO D.l1i1 D.l1i2 e
      · exact a.b2.at fun o e => hk _ o D.l2z D.l2TO D.l2i1 D.l2i2 e
      · exact nmem z (by simp)
      · exact nmem i1 (by simp)
      · exact nmem i2 (by simp)
      · simp only [List.mem_cons, List.not_mem_nil, or_false, not_or] at hb
        exact hk _ _ hb.1 hb.2.1 hb.2.2.1 hb.2.2.2 e
    · refine wpAny_bind (wpAny_pyNext_zip_item_held D p q a.ti a.a1 a.a2 a.b1 a.b2 ex ey fun h' q1 q3 q4 q5 q6 hk => step h' ⟨hk _ _ D.TIz D.TIi1 D.TIi2 a.ti, q3, q4, ?_, ?_, ⟨u, v, hk _ _ D.TOz D.TOi1 D.TOi2 hTO⟩, .inr ⟨T, true, oT, q1, hk _ _ r1 r2 r3 q, r1, r2, r3, r4⟩⟩ q5 fun b o hb e => ?_)
      · exact a.b1.at fun o e => hk _ o D.l1z D.l1i1 D.l1i2 e
      · exact a.b2.at fun o e => hk _ o D.l2z D.l2i1 D.l2i2 e
      · simp only [List.mem_cons, List.not_mem_nil, or_false, not_or] at hb
        exact hk _ _ hb.1 hb.2.2.1 hb.2.2.2 e
theorem call {Q : Value → Shared → Prop} {E : Value → Shared → Prop} (hh : A.handled = none) (D : ZipApart z TI TO i1 i2 l1 l2) (new : ∀ b, b ∈ [z, TI, TO, i1, i2] → h0.objs.size ≤ b) (hn : min xs.size ys.size ≤ sizeLine)
    (hz : IsZip s.heap z TI TO .none) (ti : IsPair s.heap TI (.ref i1) (.ref i2)) (to : ∃ a b, IsPair s.heap TO a b) (a1 : s.heap.IsListIter i1 l1 0) (a2 : s.heap.IsListIter i2 l2 0) (b1 : s.heap.IsList l1 xs) (b2 : s.heap.IsList l2 ys) (kp : ∀ b o, h0.get? b = some o → s.heap.get? b = some o)
    (fin : ∀ h' S Ts acc c, Has h0 h' S z TI TO i1 i2 xs ys Ts acc c → h0.objs.size ≤ S → Ts.length = min xs.size ys.size → Q (.ref S) { s with heap := h' }) :
    wpAny (model prog w) A (PySem.call (.type "list") [.ref z]) Q E s := by
  refine callType_codes (Q₁ := fun ob t => ob = .ref s.heap.objs.size ∧ t = { s with heap := s.heap.push { cls := .type "list", data := .seq #[] } }) F.called_list (F.typeCall_list_1 _) F.entry_list_init (code_list_new _ ⟨rfl, rfl⟩) fun ob t ht => ?_
  obtain ⟨rfl, rfl⟩ := ht
  generalize hSd : s.heap.objs.size = S
  have g0 : (s.heap.push { cls := .type "list", data := .seq #[] }).get? S = some (lsO #[] 0) := by rw [← hSd]; exact Heap.get?_push_size _ rfl
  have k0 : ∀ b o, s.heap.get? b = some o → b ≠ S ∧ (s.heap.push { cls := .type "list", data := .seq #[] }).get? b = some o := fun b o e => ⟨by rw [← hSd]; exact Nat.ne_of_lt (Heap.lt_size e), Heap.get?_push_of_some _ e⟩
  generalize s.heap.push { cls := .type "list", data := .seq #[] } = hp at g0 k0
  refine ⟨⟨_, g0, rfl⟩, F.args_list_init_2 _ _, ?_⟩
  have hzS : z ≠ S := (k0 _ _ hz).1
  have TIS : TI ≠ S := (k0 _ _ ti).1
  obtain ⟨u, v, hTO⟩ := to
  have TOS : TO ≠ S := (k0 _ _ hTO).1
  have i1S : i1 ≠ S := let ⟨_, e, _⟩ := a1; (k0 _ _ e).1
  have i2S : i2 ≠ S := let ⟨_, e, _⟩ := a2; (k0 _ _ e).1
  have l1S : l1 ≠ S := let ⟨_, e, _⟩ := b1; (k0 _ _ e).1
  have l2S : l2 ≠ S := let ⟨_, e, _⟩ := b2; (k0 _ _ e).1
  have hS : S ∉ [z, TI, TO, i1, i2, l1, l2] := fun hb => by
    simp only [List.mem_cons, List.not_mem_nil, or_false] at hb
    rcases hb with e | e | e | e | e | e | e
    · exact hzS e.symm
    · exact TIS e.symm
    · exact TOS e.symm
    · exact i1S e.symm
    · exact i2S e.symm
    · exact l1S e.symm
    · exact l2S e.symm
  have h0S : h0.objs.size ≤ S := by
    have h1 := new z List.mem_cons_self
    have h2 := Heap.lt_size hz
    rw [← hSd]
    exact Nat.le_trans h1 (Nat.le_of_lt h2)
  have news : ∀ b, b ∈ [S, z, TI, TO, i1, i2] → h0.objs.size ≤ b := fun b hb => by
    rcases List.mem_cons.mp hb with e | e
    · rw [e]; exact h0S
    · exact new b e
  have upk : ∀ (h : Heap) (f : Obj → Obj), (∀ b o, s.heap.get? b = some o → h.get? b = some o) → ∀ b o, s.heap.get? b = some o → (h.update S f).get? b = some o := fun h f q b o e => (Heap.get?_update_other _ _ (Ne.symm (k0 _ _ e).1)).trans (q b o e)
  have k1 : ∀ b o, s.heap.get? b = some o → hp.get? b = some o := fun b o e => (k0 b o e).2
  show wpAny _ A.in1.in1 (do let old ← Builtin.List.listItems (.ref S); Builtin.List.listUpdate (.ref S) (fun _ => #[]); letGo old.toList.reverse; Builtin.List.listExtendWith (.ref S) (.ref z) .none) _ _ _
  unfold Builtin.List.listItems
  refine wpAny_bind (wpAny_bind (wpAny_seqItems (s := { s with heap := hp }) g0 rfl (wpAny_pure ?_)))
  show wpAny _ A.in1.in1 (updateSeq S (fun _ => #[]) >>= fun _ => letGo (#[] : Array Value).toList.reverse >>= fun _ => Builtin.List.listExtendWith (.ref S) (.ref z) .none) _ _ _
  refine wpAny_bind (wpAny_updateSeq (s := { s with heap := hp }) g0 rfl (wpAny_bind (wpAny_letGo ?_)))
  have g1 := Heap.get?_update_self (Obj.mapSeq (fun _ => (#[] : Array Value))) g0 rfl
  have k2 := upk _ (Obj.mapSeq (fun _ => (#[] : Array Value))) k1
  unfold Builtin.List.listExtendWith
  refine wpAny_bind (wpAny_typeOf (v := .ref z) (T := "zip") ⟨_, k2 _ _ hz, rfl⟩ ?_)
  have c1 : Builtin.List.listSameRef (.ref S) (.ref z) = false := by simp [Builtin.List.listSameRef, Ne.symm hzS]
  have c2 : (Value.type "zip" == Value.type "list") = false ∧ (Value.type "zip" == Value.type "tuple") = false := by decide
  simp only [c1, c2.1, c2.2, Bool.or_false, Bool.false_eq_true, if_false]
  refine wpAny_bind (wpAny_pyIter_zip (k2 _ _ hz) (wpAny_bind (wpAny_holding ?_)))
  unfold Builtin.List.listLengthHint
  refine wpAny_bind (wpAny_specialOf (T := "zip") ⟨_, k2 _ _ hz, rfl⟩ no_len ?_)
  show wpAny _ A.in1.in1 (specialOf (Value.ref z) (Str.ofString "__length_hint__") >>= _) _ _ _
  refine wpAny_bind (wpAny_specialOf (T := "zip") ⟨_, k2 _ _ hz, rfl⟩ no_hint (wpAny_pure ?_))
  show wpAny _ A.in1.in1 (rule "list.extend.makes-room" >>= fun _ => Builtin.List.listTouch (.ref S) >>= fun _ => again (.builtin "list.extend.loop" ⟨[.ref S, .ref z, .none], []⟩)) _ _ _
  refine wpAny_bind (wpAny_rule (wpAny_bind ?_))
  show wpAny _ A.in1.in1 (updateSeq S (·.push .none) >>= fun _ => updateSeq S (·.pop)) _ _ _
  refine wpAny_bind (wpAny_updateSeq g1 rfl ?_)
  have g2 := Heap.get?_update_self (Obj.mapSeq (·.push Value.none)) g1 rfl
  refine wpAny_updateSeq (hz := by seq_fits) g2 rfl ?_
  have g3 := Heap.get?_update_self (Obj.mapSeq (·.pop)) g2 rfl
  have k4 := upk _ (Obj.mapSeq (·.pop)) (upk _ (Obj.mapSeq (·.push Value.none)) k2)
  refine wpAny_pure ⟨plainId_quiet F.plain_extend_loop _, ?_⟩
  refine loop (A := A.in1) (h0 := h0) hh D hS news hn _ 0 _ [] _ _ rfl (Nat.zero_le _) ⟨k4 _ _ ti, a1.at fun o e => k4 _ o e, a2.at fun o e => k4 _ o e, b1.at fun o e => k4 _ o e, b2.at fun o e => k4 _ o e, ⟨u, v, k4 _ _ hTO⟩, .inl (k4 _ _ hz)⟩ ⟨g3, rfl, fun j T e => ?_, List.nodup_nil, fun b o e => k4 _ _ (kp b o e)⟩ rfl fun h' Ts acc c has hl => ?_
  · simp at e
  · exact ⟨rfl, fin h' S Ts acc c has h0S hl⟩
end
end Zl
/-! ## the same for our calculus -/
namespace L2
open PySem PySem.Spec PyProof.Rows
/-- new tuples laid one by one -/
def addT (H : Hp) : List (Addr × List V) → Hp
  | [] => H
  | p :: r => upd (addT H r) p.1 (.tup p.2)
theorem addT_or {H : Hp} {a : Addr} {o : HO} : ∀ {r : List (Addr × List V)}, addT H r a = some o → H a = some o ∨ ∃ p, p ∈ r ∧ p.1 = a ∧ o = .tup p.2
  | [], h => .inl h
  | p :: r, h => by
    unfold addT at h
    by_cases e : a = p.1
    · subst e
      rw [upd_same] at h
      cases h
      exact .inr ⟨p, List.mem_cons_self, rfl, rfl⟩
    · rw [upd_ne e] at h
      rcases addT_or h with x | ⟨q, q1, q2, q3⟩
      · exact .inl x
      · exact .inr ⟨q, List.mem_cons_of_mem _ q1, q2, q3⟩
theorem addT_at {H : Hp} : ∀ {r : List (Addr × List V)}, (r.map (·.1)).Nodup → ∀ p, p ∈ r → addT H r p.1 = some (.tup p.2)
  | [], _, _, h => nomatch h
  | q :: r, nd, p, h => by
    rw [List.map_cons, List.nodup_cons] at nd
    unfold addT
    rcases List.mem_cons.mp h with e | e
    · rw [e, upd_same]
    · rw [upd_ne (fun z => nd.1 (by rw [← z]; exact List.mem_map.mpr ⟨p, e, rfl⟩))]
      exact addT_at nd.2 p e
theorem addT_none {H : Hp} {a : Addr} {r : List (Addr × List V)} (h : H a = none) (n : ∀ p, p ∈ r → p.1 ≠ a) : addT H r a = none := by
  cases e : addT H r a with
  | none => rfl
  | some o =>
    rcases addT_or e with x | ⟨q, q1, q2, q3⟩
    · rw [h] at x; cases x
    · exact absurd q2 (n q q1)
theorem addT_old {H : Hp} {r : List (Addr × List V)} (n : ∀ p, p ∈ r → H p.1 = none) : ∀ a o, H a = some o → addT H r a = some o := by
  induction r with
  | nil => exact fun a o h => h
  | cons p r ih =>
    intro a o h
    unfold addT
    rw [upd_ne (fun z => by
      have := n p List.mem_cons_self
      rw [← z, h] at this
      cases this)]
    exact ih (fun q hq => n q (List.mem_cons_of_mem _ hq)) a o h
/-- several new things at once -/
theorem un_many {fs ex : List Addr} {H H' : Hp} {h h' : Heap} (k : ∀ b u, h.get? b = some u → h'.get? b = some u) (s : ∀ a o, H a = some o → H' a = some o) (n : ∀ a o, H' a = some o → H a = some o ∨ h.objs.size ≤ a) : Un fs ex H H' h h' where
  keep := fun b u q _ _ _ => k b u q
  slot := fun b u q _ _ _ => ⟨u.slots, k b u q⟩
  free := fun b u q e _ => by
    cases z : H' b with
    | none => rfl
    | some o =>
      rcases n b o z with x | x
      · rw [e] at x; cases x
      · exact absurd (Nat.lt_of_lt_of_le (Heap.lt_size q) x) (Nat.lt_irrefl _)
  there := fun b u q _ => ⟨u, k b u q⟩
  tups := fun b xs q => s b _ q
  frzs := fun b o u q => s b _ q
  tbls := fun b ps q => ⟨#[], by rw [s b _ q]; simp⟩
theorem hok_many {P : Program} {w : World} {H H' : Hp} {h h' : Heap} (x : HOk P w H h) (k : ∀ b u, h.get? b = some u → h'.get? b = some u) (s : ∀ a o, H a = some o → H' a = some o) (n : ∀ a o, H' a = some o → H a = some o ∨ ObjOk P w H' h' a o) : HOk P w H' h' := fun a o e => by
  rcases n a o e with q | q
  · exact (x a o q).stay (fun b u _ q => k b u q) (fun c q => s _ _ q) fun c xs q => s _ _ q
  · exact q
def pairs2 (xs ys : List V) : List (List V) := List.zipWith (fun x y => [x, y]) xs ys
def tListZip (K : PySem.W.Frag) (ta : TA) : TE := fun σ H Q => ta σ H fun vs H1 => ∃ a b xs ys, vs = [.ref a, .ref b] ∧ SqL K H1 a xs ∧ SqL K H1 b ys ∧
  ∀ S r, r.map (·.2) = pairs2 xs ys → (∀ p, p ∈ r → H1 p.1 = none) → (r.map (·.1)).Nodup → H1 S = none → (∀ p, p ∈ r → p.1 ≠ S) → Q (.ref S) (upd (addT H1 r) S (.lst (r.map fun p => V.ref p.1)))
theorem vals_get {xs : List V} {us : List Value} (h : Vals xs us) {i : Nat} {u : Value} (e : us[i]? = some u) : ∃ x, xs[i]? = some x ∧ RelV x u := by
  induction h generalizing i with
  | nil => cases e
  | cons a t ih =>
    cases i with
    | zero =>
      cases e
      exact ⟨_, rfl, a⟩
    | succ i => exact ih e
theorem vals_refs1 : ∀ (r : List (Addr × List V)), Vals (r.map fun p => V.ref p.1) (r.map (Value.ref ∘ (·.1)))
  | [] => .nil
  | _ :: r => .cons rfl (vals_refs1 r)
theorem pe_listZip {X : Cx} {e e2 : Expr} {ta : TA} {p p2 q pos : Pos} (hc : X.calm = true) (hg : Gl X "list") (hm : X.mg "list" = none) (hg2 : Gl X "zip") (hm2 : X.mg "zip" = none) (ha : PA X [e, e2] ta)
    (hs : starEach [e, e2] X.env = (false, eval e X.env) :: starEach [e2] X.env := by rfl) (hpl : (backTo q (starEach [e2] X.env)).any (·.1) = false := by rfl)
    (na : starEach [.Call (.Name "zip" p2) [e, e2] [] q] X.env = (false, eval (.Call (.Name "zip" p2) [e, e2] [] q) X.env) :: starEach [] X.env := by rfl) :
    PE X (.Call (.Name "list" p) [.Call (.Name "zip" p2) [e, e2] [] q] [] pos) (tListZip X.K ta) := by
  refine ⟨fun pins s σ H Q I h => ?_⟩
  refine Call_ (ld_blt I hg hm boot_list (PyProof.Rows.callWith_type1 (args_cons ?_ na) na))
  refine Call_ (ld_blt I hg2 hm2 PyProof.Rows.boot_zip (PyProof.Rows.callWith_type1 (thn (ha.run q pins s σ H _ I h) fun us s1 ⟨vs, H1, I1, r1, q1⟩ => ?_) hs hpl))
  obtain ⟨a, b, xs, ys, ex, hqx, hqy, go⟩ := q1
  subst ex
  cases r1 with
  | cons ra rr =>
    cases rr with
    | cons rb rr =>
      cases rr
      cases ra
      cases rb
      obtain ⟨its, rv, pa, lx⟩ := I1.list hqx
      obtain ⟨its2, rv2, pb, ly⟩ := I1.list hqy
      refine call_zip_2 pa.isList pb.isList fun h1 hz hTI hTO ha1 ha2 hsz hk => args_nil ?_
      have lenx := rv.length
      have leny := rv2.length
      have small : min its.toArray.size its2.toArray.size ≤ sizeLine := by
        rw [List.size_toArray, List.size_toArray]
        omega
      have up : ∀ b, b ∈ [s1.heap.objs.size + 4, s1.heap.objs.size + 2, s1.heap.objs.size + 3, s1.heap.objs.size, s1.heap.objs.size + 1] → s1.heap.objs.size ≤ b := fun b hb => by
        simp only [List.mem_cons, List.not_mem_nil, or_false] at hb
        rcases hb with z | z | z | z | z
        · rw [z]; exact Nat.le_add_right _ _
        · rw [z]; exact Nat.le_add_right _ _
        · rw [z]; exact Nat.le_add_right _ _
        · rw [z]; exact Nat.le_refl _
        · rw [z]; exact Nat.le_add_right _ _
      refine Zl.call (h0 := s1.heap) (s := { s1 with heap := h1 }) (I1.ok.hd hc) (PySem.W.ktu_apart s1.heap.objs.size a b pa.lt pb.lt) up small hz hTI ⟨_, _, hTO⟩ ha1 ha2 (pa.isList.at fun o e => hk _ o e) (pb.isList.at fun o e => hk _ o e) hk fun h2 S Ts acc c has hS hl => ?_
      let r : List (Addr × List V) := Ts.zip (pairs2 xs ys)
      have lp : (pairs2 xs ys).length = Ts.length := by
        unfold pairs2
        rw [List.length_zipWith, hl, List.size_toArray, List.size_toArray, lenx, leny]
      have r1 : r.map (·.1) = Ts := List.map_fst_zip (by omega)
      have r2 : r.map (·.2) = pairs2 xs ys := List.map_snd_zip (by omega)
      have facts : ∀ t, t ∈ r → ∃ u v x y, t.2 = [x, y] ∧ RelV x u ∧ RelV y v ∧ IsPair h2 t.1 u v ∧ s1.heap.objs.size ≤ t.1 ∧ t.1 ≠ S := fun t ht => by
        obtain ⟨j, ej⟩ := List.mem_iff_getElem?.mp ht
        obtain ⟨e1, e2⟩ := List.getElem?_zip_eq_some.mp ej
        obtain ⟨u, v, k1, k2, k3, k4, k5⟩ := has.prs j _ e1
        rw [List.getElem?_toArray] at k1 k2
        obtain ⟨x, x1, x2⟩ := vals_get rv k1
        obtain ⟨y, y1, y2⟩ := vals_get rv2 k2
        refine ⟨u, v, x, y, ?_, x2, y2, k3, k4, fun z => k5 (by rw [z]; exact List.mem_cons_self)⟩
        unfold pairs2 at e2
        rw [List.getElem?_zipWith, x1, y1] at e2
        exact (Option.some.inj e2).symm
      have n0 : ∀ t, t ∈ r → H1 t.1 = none := fun t ht => by
        obtain ⟨_, _, _, _, _, _, _, _, k, _⟩ := facts t ht
        exact I1.hok.fresh k
      have nS : H1 S = none := I1.hok.fresh hS
      have dS : ∀ t, t ∈ r → t.1 ≠ S := fun t ht => by
        obtain ⟨_, _, _, _, _, _, _, _, _, k⟩ := facts t ht
        exact k
      have nd : (r.map (·.1)).Nodup := by rw [r1]; exact has.nod
      have fS : addT H1 r S = none := addT_none nS dS
      have sm : ∀ a o, H1 a = some o → upd (addT H1 r) S (.lst (r.map fun p => V.ref p.1)) a = some o := fun a o e => by
        rw [upd_ne (fun z => by rw [z, nS] at e; cases e)]
        exact addT_old n0 a o e
      have kp : ∀ b u, s1.heap.get? b = some u → h2.get? b = some u := has.kept
      have cs : ∀ a o, upd (addT H1 r) S (.lst (r.map fun p => V.ref p.1)) a = some o → H1 a = some o ∨ (s1.heap.objs.size ≤ a ∧ ObjOk X.prog X.w (upd (addT H1 r) S (.lst (r.map fun p => V.ref p.1))) h2 a o) := fun a o e => by
        by_cases z : a = S
        · subst z
          rw [upd_same] at e
          cases e
          refine .inr ⟨hS, ?_, acc.toList, c, ?_, ?_⟩
          · rw [List.length_map, ← List.length_map (f := (·.1)), r1, hl]
            exact small
          · rw [has.is, ← r1, List.map_map]
            exact vals_refs1 r
          · rw [Array.toArray_toList]
            exact has.lst
        · rw [upd_ne z] at e
          rcases addT_or e with y | ⟨t, t1, t2, t3⟩
          · exact .inl y
          · subst t2
            subst t3
            obtain ⟨u, v, x, y, k1, k2, k3, k4, k5, k6⟩ := facts t t1
            rw [k1]
            exact .inr ⟨k5, by show 2 ≤ sizeLine; decide, [u, v], .cons k2 (.cons k3 .nil), ⟨_, k4, rfl, _, rfl⟩⟩
      refine ⟨.ref S, _, I1.un (t' := s1.toks) (un_many kp sm fun a o e => (cs a o e).imp id (·.1)) (hok_many I1.hok kp sm fun a o e => (cs a o e).imp id (·.2)), rfl, go S r r2 n0 nd nS dS⟩
end L2
namespace Dv
open PySem L2
def gZipL : GB
  | [.lst ds, .lst es] => some (.new (zipD ds es))
  | _ => none
theorem dqa_zip {K : PySem.W.Frag} {G : Hp} : ∀ {r : List (Addr × List V)} {xs ys : List V} {ds es : List D}, r.map (·.2) = pairs2 xs ys → DqA K G xs ds → DqA K G ys es → (∀ t, t ∈ r → G t.1 = some (.tup t.2)) → DqA K G (r.map fun p => V.ref p.1) (zipD ds es)
  | [], [], _, _, _, _, h1, _, _ => by
    cases h1
    simp only [zipD, List.map_nil]
    exact .nil
  | [], _ :: _, [], _, _, _, _, h2, _ => by
    cases h2
    cases ‹List D› <;> simp only [zipD, List.map_nil] <;> exact .nil
  | [], _ :: _, _ :: _, _, _, e, _, _, _ => by cases e
  | t :: r, [], _, _, _, e, _, _, _ => by cases e
  | t :: r, _ :: _, [], _, _, e, _, _, _ => by cases e
  | t :: r, x :: xs, y :: ys, _, _, e, h1, h2, g => by
    cases h1 with
    | cons a1 b1 =>
      cases h2 with
      | cons a2 b2 =>
        rw [List.map_cons, show pairs2 (x :: xs) (y :: ys) = [x, y] :: pairs2 xs ys from rfl, List.cons.injEq] at e
        have g0 := g t List.mem_cons_self
        rw [e.1] at g0
        exact .cons (.tup (.inl (.inl g0)) (.cons a1 (.cons a2 .nil))) (dqa_zip e.2 b1 b2 fun s hs => g s (List.mem_cons_of_mem _ hs))
section
variable {K : PySem.W.Frag}
theorem snd_listZip {t : TA} {fa : AF} (h1 : SndA K t fa) : Snd K (tListZip K t) (fB gZipL fa) := by
  intro B O I σ H env rv env' S e Q q
  obtain ⟨⟨r1, env1⟩, e1, e⟩ := bnd e
  obtain ⟨x, ex, e⟩ := bnd e
  obtain ⟨z, ez, e⟩ := bnd e
  cases e
  refine h1 B O I σ H env r1 env1 S e1 _ fun vs H1 S1 P1 => ?_
  unfold gZipL at ez
  split at ez
  · cases ez
    obtain ⟨v, w, r, s, rfl, P2, e2, P3, e3⟩ := two_of P1 ex
    obtain ⟨p1, xs, rfl, h3, k1⟩ := P2.items e2
    obtain ⟨p2, ys, rfl, h4, k2⟩ := P3.items e3
    refine ⟨p1, p2, xs, ys, rfl, .inl (.inl h3), .inl (.inl h4), fun A r e n0 nd nS dS => ?_⟩
    have sm : Same H1 (addT H1 r) := fun a o e => addT_old n0 a o e
    refine q _ _ (post_new (S1.grow sm) (addT_none nS dS) (dqa_zip e (DqA.mono (mi_mono sm) _ _ k1) (DqA.mono (mi_mono sm) _ _ k2) fun t ht => mi_of (fun z => ?_) (addT_at nd t ht)))
    obtain ⟨o, ho⟩ := S1.dom _ z
    rw [n0 t ht] at ho
    cases ho
  · cases ez
end
end Dv

/-! # len(set(pairs)), min(pairs), a <= b <= c of tuples -/
namespace Big
open PySem PySem.Spec PyProof.Rows L2
def rLenB (K : PySem.W.Frag) (P : Program) (w : World) : List V → Hp → VK → Prop := fun vs H Q => ∃ (a : Addr) (L : List (Addr × List Int)), vs = [V.ref a] ∧ H a = some (SetBO P w a L) ∧ (∀ p, p ∈ L → SqT K H p.1 (p.2.map V.int)) ∧
  ((L.map (·.2)).Nodup → Q (.int (L.length : Nat)) H)
theorem cr_lenB {X : Cx} : CallR X (.builtin "len") (rLenB X.K X.prog X.w) := by
  intro pins s σ H vs us Q I r h
  obtain ⟨a, L, rfl, ha, hk, q⟩ := h
  obtain ⟨es, ep, t, y1, y2, y3, y4, y5, y6, y7, y8⟩ := (show SetB0 X.prog X.w s.heap a L from (I.hok a _ ha).1)
  have R : SetB X.prog X.w s.heap a L es ep t := ⟨y1, y2, y3, y4, fun p hp => I.isT (hk p hp), y5, y6, y7⟩
  rw [Vals.ref1 r]
  obtain ⟨o, ho, hex, hd⟩ := y1
  have hl : es.size = L.length := ent_len R.ent
  refine call_len_set ho hex hd R.fits ?_ ⟨.int (L.length : Nat), H, I.tok _, ⟨_, by rw [hl]⟩, q R.one⟩
  rw [hl]
  unfold mostB at y8
  omega
end Big
namespace Dv
open PySem L2
def gLenSet : GB
  | [.lst ds] => (pairsD ds).bind fun ps => if ps.length ≤ 9900 then some (.val (.int ((srtP ps).length : Nat))) else none
  | _ => none
theorem nodup_same {α : Type} : ∀ {l m : List α}, l.Nodup → m.Nodup → (∀ x, x ∈ l ↔ x ∈ m) → l.length = m.length := fun {l m} h1 h2 h => ((List.perm_ext_iff_of_nodup h1 h2).mpr h).length_eq
section
variable {K : PySem.W.Frag}
theorem str_nodup : ∀ {l : List (Int × Int)}, l.Pairwise ltP2 → l.Nodup := fun {l} h => h.imp fun {p q} h e => by
  rw [e] at h
  exact ltP2_irr h
theorem snd_lenSet {P : Program} {w : World} {t : TA} {fa : AF} (h1 : SndA K t fa) : Snd K (tCB (Big.rLenB K P w) (tCons (tCB (Big.rSetB K P w) t) tNil)) (fB gLenSet fa) := by
  intro B O I σ H env rv env' S e Q q
  obtain ⟨⟨r1, env1⟩, e1, e⟩ := bnd e
  obtain ⟨x, ex, e⟩ := bnd e
  obtain ⟨z, ez, e⟩ := bnd e
  cases e
  refine h1 B O I σ H env r1 env1 S e1 _ fun vs H1 S1 P1 => ?_
  unfold gLenSet at ez
  split at ez
  · obtain ⟨v, r, rfl, P2, e2⟩ := one_of P1 ex
    obtain ⟨p1, xs, rfl, h3, k1⟩ := P2.items e2
    obtain ⟨ps, e3, e4⟩ := bnd ez
    split at e4
    · rename_i most
      cases e4
      rw [pairsD_eq e3] at k1
      obtain ⟨ks, f1, f2, f3⟩ := rows_of k1
      subst f1
      have lk : ks.length = ps.length := by
        have := congrArg List.length f3
        simpa using this
      refine ⟨p1, ks, rfl, .inl (.inl h3), fun p hp => sqT_mono mi_same (f2 p hp), by rw [lk]; exact most, fun a L hn sub all => ?_⟩
      refine ⟨a, L, rfl, upd_same, fun p hp => sqT_mono (same_new hn) (sqT_mono mi_same (f2 p (sub p hp))), fun nd => ?_⟩
      have pr : ∀ p, p ∈ L → p.2 = [(Big.kv p.2).1, (Big.kv p.2).2] ∧ Big.kv p.2 ∈ ps := fun p hp => by
        have m : p.2 ∈ ks.map (·.2) := List.mem_map.mpr ⟨p, sub p hp, rfl⟩
        rw [f3] at m
        obtain ⟨r, hr, e⟩ := List.mem_map.mp m
        rw [← e]
        exact ⟨rfl, hr⟩
      have e5 : L.length = (srtP ps).length := by
        have h4 := nodup_same (l := L.map fun p => Big.kv p.2) (m := srtP ps) ?_ (str_nodup (str_srtP ps)) fun x => ?_
        · rw [List.length_map] at h4
          exact h4
        · refine List.pairwise_map.mpr ((List.pairwise_map.mp nd).imp_of_mem fun {p r} hp hr h e => h ?_)
          rw [(pr p hp).1, (pr r hr).1, e]
        · rw [mem_srtP, List.mem_map]
          constructor
          · rintro ⟨p, hp, rfl⟩
            exact (pr p hp).2
          · intro hx
            have m : [x.1, x.2] ∈ ks.map (·.2) := by
              rw [f3]
              exact List.mem_map.mpr ⟨x, hx, rfl⟩
            obtain ⟨p, hp, e⟩ := List.mem_map.mp m
            obtain ⟨r, hr, e5⟩ := List.mem_map.mp (all p hp)
            exact ⟨r, hr, by rw [e5, e]; rfl⟩
      rw [e5]
      exact q _ _ ⟨S1.grow (same_new hn), .int _⟩
    · cases e4
  · cases ez
end
theorem gLenSet_L (xs : List (Int × Int)) : gLenSet [.lst (xs.map fun p => D.tup [.int p.1, .int p.2])] = if xs.length ≤ 9900 then some (.val (.int ((srtP xs).length : Nat))) else none := by
  show (pairsD (xs.map pD)).bind _ = _
  rw [pairsD_map]
  rfl
open PySem.W (dataLt dataLt_ii AlikeAll iter_listW readsAll_len cmpIn_lt moved_old argBest_fold)
/-! ## the least of pairs -/
def leastP (p : Int × Int) (l : List (Int × Int)) : Int × Int := l.foldl (fun a y => if ltP2 y a then y else a) p
def gMinP : GB
  | [.lst ds] => (pairsD ds).bind fun ps => match ps with
    | [] => none
    | p :: l => some (.val (pD (leastP p l)))
  | _ => none
def pyP (p : Int × Int) : PyData := .tuple [.int p.1, .int p.2]
def rMinD (K : PySem.W.Frag) : List V → Hp → VK → Prop := fun vs H Q => ∃ (a : Addr) (xs : List V) (p : Int × Int) (l : List (Int × Int)), vs = [V.ref a] ∧ SqL K H a xs ∧ DpAll K H xs ((p :: l).map pyP) ∧
  ∀ i x, ((p :: l).map pyP).getD i .none = pyP (leastP p l) → xs[i]? = some x → Q x H
theorem lt_py (p q : Int × Int) : dataLt (pyP p) (pyP q) = decide (ltP2 p q) := dataLt_ii _ _ _ _
theorem fold_py : ∀ (l : List (Int × Int)) (p : Int × Int), (l.map pyP).foldl (fun a y => if dataLt y a then y else a) (pyP p) = pyP (leastP p l)
  | [], _ => rfl
  | q :: l, p => by
    rw [List.map_cons, List.foldl_cons, lt_py]
    show _ = pyP (leastP (if ltP2 q p then q else p) l)
    by_cases h : ltP2 q p
    · rw [if_pos h, if_pos (decide_eq_true h)]
      exact fold_py l q
    · rw [if_neg h, if_neg (by rw [decide_eq_false h]; exact Bool.false_ne_true)]
      exact fold_py l p
theorem depth_py : ∀ l : List (Int × Int), PyData.depthAll (l.map pyP) ≤ 50
  | [] => by decide
  | p :: l => Nat.max_le.mpr ⟨by simp [pyP, PyData.depth, PyData.depthAll], depth_py l⟩
theorem alike_py (l : List (Int × Int)) : AlikeAll (l.map pyP) := ⟨fun x hx y hy => by
  obtain ⟨p, _, rfl⟩ := List.mem_map.mp hx
  obtain ⟨q, _, rfl⟩ := List.mem_map.mp hy
  rfl, fun x hx => by
  obtain ⟨p, _, rfl⟩ := List.mem_map.mp hx
  exact fun z => PyData.noConfusion z⟩
theorem cr_minD {X : Cx} (hc : X.calm = true) (hu : X.A.units + 64 < cLine) : CallR X (.builtin "min") (rMinD X.K) := by
  intro pins s σ H vs us Q I r h
  obtain ⟨a, xs, p, l, rfl, hs, hd, q⟩ := h
  obtain ⟨its, rv, hl, hz⟩ := I.list hs
  rw [Vals.ref1 r]
  obtain ⟨as, hr⟩ := Dp.readsAll I _ _ _ hd rv
  have len : its.toArray.size = l.length + 1 := by
    have := readsAll_len (vs := its.toArray) hr
    simpa using this
  have dp := depth_py (p :: l)
  refine call_min_walkH (iter_listW (A := X.A.in1) (I.ok.hd hc) hl.isList fun s2 e W st hfp hw hk => ⟨_, _, _, _, _, _, _, s.heap, _, rfl, W, st, hfp, by omega, hw, hk, cmpIn_lt (A := X.A.in1) hr (alike_py (p :: l)) (by show X.A.units + 1 + _ < _; omega), fun v s' hP m => ?_⟩)
  obtain ⟨h2, tk, rfl, hk2⟩ := moved_old e rfl m
  have hv : its[argBest (fun i j => dataLt (((p :: l).map pyP).getD i .none) (((p :: l).map pyP).getD j .none)) (its.toArray.size - 1)]? = some v := by
    rw [← List.getElem?_toArray]
    exact hP
  obtain ⟨x, hx, rx⟩ := vals_get rv hv
  have e1 : its.toArray.size - 1 = (l.map pyP).length := by rw [len, List.length_map]; rfl
  have e2 := (argBest_fold dataLt PyData.none (pyP p) (l.map pyP) (l.map pyP).length (Nat.le_refl _)).2
  rw [List.take_length, fold_py, ← e1] at e2
  exact ⟨x, H, I.kept (t' := tk) hk2, rx, q _ x e2 hx⟩
theorem lay_py : ∀ l : List (Int × Int), PyData.canLayAll0 (toPys (l.map pD)) = true
  | [] => rfl
  | p :: l => by
    show (true && PyData.canLayAll0 (toPys (l.map pD))) = true
    rw [lay_py l]
    rfl
theorem toPys_pairs : ∀ l : List (Int × Int), toPys (l.map pD) = l.map pyP
  | [] => rfl
  | p :: l => by
    show _ :: toPys (l.map pD) = _
    rw [toPys_pairs l]
    rfl
theorem pyP_inj {p q : Int × Int} (h : pyP p = pyP q) : p = q := by
  unfold pyP at h
  injection h with h
  injection h with h1 h2
  injection h2 with h2 h3
  injection h1 with h1
  injection h2 with h2
  exact Prod.ext h1 h2
theorem cg_minD {K : PySem.W.Frag} : CallG K (rMinD K) gMinP := by
  intro B O I σ H env vs rs ds z S P e ez Q q
  unfold gMinP at ez
  split at ez
  · obtain ⟨v, r, rfl, P1, e1⟩ := one_of P e
    obtain ⟨p1, xs, rfl, h1, k1⟩ := P1.items e1
    obtain ⟨ps, e2, e3⟩ := bnd ez
    rw [pairsD_eq e2] at k1
    cases ps with
    | nil => cases e3
    | cons p l =>
      cases e3
      have hd := DqA.py _ _ (DqA.mono mi_same _ _ k1) (lay_py (p :: l))
      rw [toPys_pairs] at hd
      refine ⟨p1, xs, p, l, rfl, .inl (.inl h1), hd, fun i x hi hx => ?_⟩
      obtain ⟨d, hd2, k2⟩ := k1.getV hx
      rw [List.getElem?_map] at hd2
      obtain ⟨y, hy, rfl⟩ := Option.map_eq_some_iff.mp hd2
      rw [List.getD_eq_getElem?_getD, List.getElem?_map, hy] at hi
      have := pyP_inj hi
      rw [this] at k2
      exact q _ H ⟨S, k2⟩
  · cases ez
theorem gMinP_L (p : Int × Int) (xs : List (Int × Int)) : gMinP [.lst ((p :: xs).map fun p => D.tup [.int p.1, .int p.2])] = some (.val (.tup [.int (leastP p xs).1, .int (leastP p xs).2])) := by
  show (pairsD ((p :: xs).map pD)).bind _ = _
  rw [pairsD_map]
  rfl
/-! ## a <= b <= c of three names that hold pairs -/
def gLePP : D → D → Option Bool
  | .tup [.int a, .int b], .tup [.int c, .int d] => some (decide (a < c ∨ (a = c ∧ b ≤ d)))
  | _, _ => none
def fLe3 (i j k : Nat) : EF := fun env => match env[i]?, env[j]?, env[k]? with
  | some (.fz x), some (.fz y), some (.fz z) => (gLePP x y).bind fun b => if b = true then (gLePP y z).bind fun c => some (.val (.bl c), env) else some (.val (.bl false), env)
  | _, _, _ => none
theorem rle_of {K : PySem.W.Frag} {G H : Hp} {u v : V} {x y : D} {b : Bool} (sm : Same G H) (h1 : Dq K G u x) (h2 : Dq K G v y) (e : gLePP x y = some b) {Q : VK} (q : Q (.bl b) H) : rLeT K u v H Q := by
  unfold gLePP at e
  split at e
  · rename_i a b c d
    cases e
    cases h1 with
    | @tup p us _ h3 h4 =>
      cases h2 with
      | @tup p' us' _ h5 h6 =>
        have e1 : us = [V.int a, V.int b] := DqA.isInts (ns := [a, b]) h4
        have e2 : us' = [V.int c, V.int d] := DqA.isInts (ns := [c, d]) h6
        subst e1
        subst e2
        refine ⟨p, p', [a, b], [c, d], rfl, rfl, sqT_mono sm h3, sqT_mono sm h5, ?_⟩
        have : Ob.lexAt (fun j => decide ([a, b].getD j 0 = [c, d].getD j 0)) (fun j => decide ([a, b].getD j 0 ≤ [c, d].getD j 0)) (decide ([a, b].length ≤ [c, d].length)) 0 (min [a, b].length [c, d].length) = decide (a < c ∨ (a = c ∧ b ≤ d)) := by
          show (if decide (a = c) = true then (if decide (b = d) = true then decide (2 ≤ 2) else decide (b ≤ d)) else decide (a ≤ c)) = _
          by_cases h : a = c
          · subst h
            rw [if_pos (decide_eq_true rfl)]
            by_cases h : b = d
            · subst h
              simp
            · rw [if_neg (by simpa using h)]
              simp
          · rw [if_neg (by simpa using h)]
            congr 1
            apply propext
            omega
        rw [this]
        exact q
  · cases e
theorem snd_le3 {K : PySem.W.Frag} {i j k : Nat} : Snd K (tChain (rLeT K) (rLeT K) (tVar i) (tVar j) (tVar k)) (fLe3 i j k) := by
  intro B O I σ H env rv env' S e Q q
  unfold fLe3 at e
  split at e
  · rename_i x y z h1 h2 h3
    obtain ⟨u, u1, u2⟩ := S.fz i _ h1
    obtain ⟨v, v1, v2⟩ := S.fz j _ h2
    obtain ⟨w, w1, w2⟩ := S.fz k _ h3
    obtain ⟨b, e1, e⟩ := bnd e
    refine ⟨u, u1, v, v1, rle_of mi_same u2 v2 e1 ⟨b, rfl, ?_⟩⟩
    cases b with
    | false =>
      rw [if_neg Bool.false_ne_true] at e ⊢
      cases e
      exact q _ H ⟨S, .bl _⟩
    | true =>
      rw [if_pos rfl] at e ⊢
      obtain ⟨c, e2, e⟩ := bnd e
      cases e
      exact ⟨w, w1, rle_of mi_same v2 w2 e2 (q _ H ⟨S, .bl _⟩)⟩
  · cases e
section
variable {i j k : Nat} {env : Env} {P : RV × Env → Prop} {a b c d e f : Int}
theorem fLe3_at (h1 : env[i]? = some (.fz (.tup [.int a, .int b]))) (h2 : env[j]? = some (.fz (.tup [.int c, .int d]))) (h3 : env[k]? = some (.fz (.tup [.int e, .int f])))
    (h : P (.val (.bl (decide (a < c ∨ (a = c ∧ b ≤ d)) && decide (c < e ∨ (c = e ∧ d ≤ f)))), env)) : Ok (fLe3 i j k env) P := by
  refine ⟨_, ?_, h⟩
  unfold fLe3
  rw [h1, h2, h3]
  show (if decide (a < c ∨ (a = c ∧ b ≤ d)) = true then _ else _) = _
  cases decide (a < c ∨ (a = c ∧ b ≤ d)) <;> rfl
end
end Dv

/-! an own dict, key by key: for k in d, [.. for k in d] -/
namespace Dv
open PySem L2
section
variable {K : PySem.W.Frag} {B : Hp} {O : List Addr} {I : List (Nat × Addr)} {σ : L2.St} {H : Hp} {env : Env} {W : WN} {te : TE} {fe : EF} {p : Addr} {od : Obj} {u : HO} {kl : List (List L2.Key × V)} {kvs : List (List Int × D)} {i : Nat}
def keysN (kvs : List (List Int × D)) : List D := kvs.map fun q => D.nt (q.1.map D.int)
theorem set_get {sv : SV} {j : Nat} (c : j ≠ i) : (env.set i sv)[j]? = env[j]? := List.getElem?_set_ne (Ne.symm c)
theorem own_setK {sv : SV} (hs : ∀ ds, sv ≠ .o1 ds ∧ sv ≠ .io ds) {j : Nat} {es : List D} (z : OwnAt (env.set i sv) j es) : j ≠ i ∧ OwnAt env j es := by
  by_cases c : j = i
  · subst c
    exfalso
    by_cases l : j < env.length
    · unfold OwnAt at z
      rw [List.getElem?_set_self l] at z
      rcases z with z | z
      · exact (hs es).1 (Option.some.inj z)
      · exact (hs es).2 (Option.some.inj z)
    · unfold OwnAt at z
      rw [List.getElem?_eq_none (by rw [List.length_set]; omega)] at z
      rcases z with z | z <;> cases z
  · refine ⟨c, ?_⟩
    unfold OwnAt at z ⊢
    rw [set_get c] at z
    exact z
/-- an own dict is locked: its name is not known then -/
theorem Sta.lockD (S : Sta K B O I σ H env) (hi : env[i]? = some (.nw (.dct kvs))) (h1 : σ[i]? = some (some (.ref p))) : Sta K (upd B p (.frz od u)) O I σ (upd H p (.frz od u)) (env.set i .no) := by
  obtain ⟨p', h1', ⟨ks, h3, h4⟩, _, h5, h6, h7⟩ := S.nw i _ hi
  have pp : p' = p := by
    rw [h1] at h1'
    cases h1'
    rfl
  subst pp
  obtain ⟨pO, pB⟩ := h5 p' adsOf_self
  have li : i < env.length := (List.getElem?_eq_some_iff.mp hi).1
  have em : mi (upd H p' (.frz od u)) O = mi H O := mi_upd_in pO
  have other : ∀ j es q, OwnAt env j es → σ[j]? = some (some (.ref q)) → q ≠ p' := fun j es q hj e z => by
    subst z
    exact h6 j es q hj e adsOf_self
  have own : ∀ {j : Nat} {es : List D}, OwnAt (env.set i .no) j es → j ≠ i ∧ OwnAt env j es := fun z => own_setK (fun ds => ⟨fun z => (by cases z), fun z => (by cases z)⟩) z
  refine ⟨by rw [List.length_set]; exact S.len, fun j d hj => ?_, fun j es hj => ?_, fun j l es gs q hj hl e1 e2 => S.sep j l es gs q (own hj).2 (own hl).2 e1 e2, fun a o h => ?_, fun q hq => ?_, fun j q hj => ?_, fun j w hj => ?_, fun q ys hq => ?_⟩
  · have c : j ≠ i := fun z => by
      subst z
      rw [List.getElem?_set_self li] at hj
      cases hj
    rw [set_get c] at hj
    rw [em]
    exact S.fz j d hj
  · obtain ⟨c, hj⟩ := own hj
    obtain ⟨q, ys, k1, k2, k3, k4, k5⟩ := S.ow j es hj
    have n := other j es q hj k1
    exact ⟨q, ys, k1, k2, by rw [upd_ne n]; exact k3, by rw [em]; exact k4, by rw [upd_ne n]; exact k5⟩
  · by_cases c : a = p'
    · subst c
      rw [upd_same] at h ⊢
      exact h
    · rw [upd_ne c] at h ⊢
      exact S.base a o h
  · by_cases c : q = p'
    · subst c
      exact ⟨_, upd_same⟩
    · rw [upd_ne c]
      exact S.dom q hq
  · obtain ⟨k1, es, k2⟩ := S.pin j q hj
    have c : j ≠ i := fun z => by
      subst z
      rw [hi] at k2
      cases k2
    exact ⟨k1, es, by rw [set_get c]; exact k2⟩
  · have c : j ≠ i := fun z => by
      subst z
      rw [List.getElem?_set_self li] at hj
      cases hj
    rw [set_get c] at hj
    obtain ⟨q, b1, b2, b3, b4, b5, b6⟩ := S.nw j w hj
    have np : ∀ a, a ∈ adsOf H q w → a ≠ p' := fun a ha z => by
      subst z
      exact b6 i _ a (Ne.symm c) hi h1 a ha adsOf_self
    have e0 : adsOf (upd H p' (.frz od u)) q w = adsOf H q w := adsOf_eq (upd_ne (np q adsOf_self))
    refine ⟨q, b1, ?_, by rw [e0]; exact b3, fun a ha => ?_, fun l ds a hl e ha => ?_, fun l w' r hl hw e a ha ha' => ?_⟩
    · rw [em]
      exact b2.mono (Same.refl _) fun a ha => upd_ne (np a ha)
    · rw [e0] at ha
      exact ⟨(b4 a ha).1, by rw [upd_ne (np a ha)]; exact (b4 a ha).2⟩
    · rw [e0] at ha
      exact b5 l ds a (own hl).2 e ha
    · have cl : l ≠ i := fun z => by
        subst z
        rw [List.getElem?_set_self li] at hw
        cases hw
      rw [set_get cl] at hw
      rw [e0] at ha
      have e1 : adsOf (upd H p' (.frz od u)) r w' = adsOf H r w' := adsOf_eq (upd_ne fun z => by
        subst z
        exact h7 l w' r cl hw e r adsOf_self adsOf_self)
      rw [e1] at ha'
      exact b6 l w' r hl hw e a ha ha'
  · by_cases c : q = p'
    · subst c
      rw [upd_same]
      intro z
      cases z
    · rw [upd_ne c]
      exact S.nt q ys hq
/-- it is an own dict again -/
theorem Sta.unlockD (S : Sta K (upd B p (.frz od u)) O I σ H env) (hi : env[i]? = some .no) (h1 : σ[i]? = some (some (.ref p))) (pO : p ∈ O) (pB : B p = none) (hk : DqK K (mi H O) kl kvs) : Sta K B O I σ (upd H p (.dT kl)) (env.set i (.nw (.dct kvs))) := by
  have li : i < env.length := (List.getElem?_eq_some_iff.mp hi).1
  have em : mi (upd H p (.dT kl)) O = mi H O := mi_upd_in pO
  have free : ∀ {q : Addr}, upd B p (.frz od u) q = none → q ≠ p ∧ B q = none := fun {q} z => by
    have c : q ≠ p := fun y => by
      subst y
      rw [upd_same] at z
      cases z
    rw [upd_ne c] at z
    exact ⟨c, z⟩
  have own : ∀ {j : Nat} {es : List D}, OwnAt (env.set i (.nw (.dct kvs))) j es → j ≠ i ∧ OwnAt env j es := fun z => own_setK (fun ds => ⟨fun z => (by cases z), fun z => (by cases z)⟩) z
  refine ⟨by rw [List.length_set]; exact S.len, fun j d hj => ?_, fun j es hj => ?_, fun j l es gs q hj hl e1 e2 => S.sep j l es gs q (own hj).2 (own hl).2 e1 e2, fun a o h => ?_, fun q hq => ?_, fun j q hj => ?_, fun j w hj => ?_, fun q ys hq => ?_⟩
  · have c : j ≠ i := fun z => by
      subst z
      rw [List.getElem?_set_self li] at hj
      cases hj
    rw [set_get c] at hj
    rw [em]
    exact S.fz j d hj
  · obtain ⟨c, hj⟩ := own hj
    obtain ⟨q, ys, k1, k2, k3, k4, k5⟩ := S.ow j es hj
    obtain ⟨n, k6⟩ := free k5
    exact ⟨q, ys, k1, k2, by rw [upd_ne n]; exact k3, by rw [em]; exact k4, k6⟩
  · have c : a ≠ p := fun z => by
      subst z
      rw [pB] at h
      cases h
    rw [upd_ne c]
    exact S.base a o (by rw [upd_ne c]; exact h)
  · by_cases c : q = p
    · subst c
      exact ⟨_, upd_same⟩
    · rw [upd_ne c]
      exact S.dom q hq
  · obtain ⟨k1, es, k2⟩ := S.pin j q hj
    have c : j ≠ i := fun z => by
      subst z
      rw [hi] at k2
      cases k2
    exact ⟨k1, es, by rw [set_get c]; exact k2⟩
  · have oth : ∀ j w, j ≠ i → env[j]? = some (SV.nw w) → ∃ q, σ[j]? = some (some (.ref q)) ∧ Real K (mi H O) H q w ∧ (adsOf H q w).Nodup ∧ (∀ a, a ∈ adsOf H q w → a ∈ O ∧ B a = none ∧ a ≠ p) := fun j w c hj => by
      obtain ⟨q, b1, b2, b3, b4, b5, b6⟩ := S.nw j w hj
      exact ⟨q, b1, b2, b3, fun a ha => ⟨(b4 a ha).1, (free (b4 a ha).2).2, (free (b4 a ha).2).1⟩⟩
    by_cases c : j = i
    · subst c
      rw [List.getElem?_set_self li] at hj
      cases hj
      refine ⟨p, h1, ⟨kl, upd_same, by rw [em]; exact hk⟩, by unfold adsOf; simp, fun a ha => ?_, fun l ds a hl e ha => ?_, fun l w' r hl hw e a ha ha' => ?_⟩
      · unfold adsOf at ha
        rw [List.mem_singleton.mp ha]
        exact ⟨pO, pB⟩
      · unfold adsOf at ha
        obtain ⟨cl, hl⟩ := own hl
        obtain ⟨q, ys, k1, k2, k3, k4, k5⟩ := S.ow l ds hl
        rw [k1] at e
        cases e
        exact (free k5).1 (List.mem_singleton.mp ha)
      · unfold adsOf at ha
        rw [set_get hl] at hw
        obtain ⟨q, b1, b2, b3, b4⟩ := oth l w' hl hw
        rw [e] at b1
        cases b1
        have e1 : adsOf (upd H p (.dT kl)) r w' = adsOf H r w' := adsOf_eq (upd_ne (b4 r adsOf_self).2.2)
        rw [e1] at ha'
        exact (b4 a ha').2.2 (List.mem_singleton.mp ha)
    · rw [set_get c] at hj
      obtain ⟨q, b1, b2, b3, b4, b5, b6⟩ := S.nw j w hj
      have np : ∀ a, a ∈ adsOf H q w → a ≠ p := fun a ha => (free (b4 a ha).2).1
      have e0 : adsOf (upd H p (.dT kl)) q w = adsOf H q w := adsOf_eq (upd_ne (np q adsOf_self))
      refine ⟨q, b1, ?_, by rw [e0]; exact b3, fun a ha => ?_, fun l ds a hl e ha => ?_, fun l w' r hl hw e a ha ha' => ?_⟩
      · rw [em]
        exact b2.mono (Same.refl _) fun a ha => upd_ne (np a ha)
      · rw [e0] at ha
        exact ⟨(b4 a ha).1, (free (b4 a ha).2).2⟩
      · rw [e0] at ha
        exact b5 l ds a (own hl).2 e ha
      · rw [e0] at ha
        by_cases cl : l = i
        · subst cl
          rw [List.getElem?_set_self li] at hw
          cases hw
          rw [h1] at e
          cases e
          unfold adsOf at ha'
          exact np a ha (List.mem_singleton.mp ha')
        · rw [set_get cl] at hw
          obtain ⟨q', c1, c2, c3, c4⟩ := oth l w' cl hw
          rw [e] at c1
          cases c1
          have e1 : adsOf (upd H p (.dT kl)) r w' = adsOf H r w' := adsOf_eq (upd_ne (c4 r adsOf_self).2.2)
          rw [e1] at ha'
          exact b6 l w' r hl hw e a ha ha'
  · by_cases c : q = p
    · subst c
      rw [upd_same]
      intro z
      cases z
    · rw [upd_ne c]
      exact S.nt q ys hq
/-- the keys, one by one -/
theorem iter_keysN {O' : List Addr} (h : H p = some (.frz od (.dT kl))) {G : Hp} (hk : DqK K G kl kvs) (nt : ∀ (q : Addr) (xs : List V), q ∈ O' → H q ≠ some (.tup xs)) :
    (∀ n, n < (keysN kvs).length → (Itkt p od kl).go n H) ∧ (Itkt p od kl).stop (keysN kvs).length H ∧ ∀ n d x H', (keysN kvs)[n]? = some d → (Itkt p od kl).yld n H x H' → H' = H ∧ Dq K (mi H O') x d := by
  obtain ⟨g1, _⟩ := hk.parts
  have lk : kl.length = kvs.length := by
    have := congrArg List.length g1
    simpa using this
  have ll : (keysN kvs).length = kl.length := by
    unfold keysN
    rw [List.length_map, lk]
  refine ⟨fun n hn => ⟨h, by omega⟩, ⟨h, by omega⟩, fun n d x H' hd hy => ?_⟩
  obtain ⟨rfl, k, v, q, y1, rfl, y3⟩ := hy
  refine ⟨rfl, ?_⟩
  have hn : n < kvs.length := by
    have := (List.getElem?_eq_some_iff.mp y1).1
    omega
  have e1 : k = kvs[n].1.map Sum.inl := by
    have := congrArg (fun l => l[n]?) g1
    simp only [List.getElem?_map, y1, List.getElem?_eq_getElem hn, Option.map_some] at this
    exact Option.some.inj this
  have e2 : d = D.nt (kvs[n].1.map D.int) := by
    unfold keysN at hd
    rw [List.getElem?_map, List.getElem?_eq_getElem hn] at hd
    exact (Option.some.inj hd).symm
  subst e1 e2
  refine .nt (mi_of (fun z => nt q _ z y3) ?_) (dqa_ints _)
  rw [y3]
  congr 2
  exact keyI_kV _
/-! ### for k in d -/
def OutOkI (K : PySem.W.Frag) (B : Hp) (O : List Addr) (I : List (Nat × Addr)) (i : Nat) (σ : L2.St) (D : Ends) : Out → Prop
  | .nx env => ∀ O' σ' H', Sub B I O O' → Sta K B O' I σ' H' env → σ'[i]? = σ[i]? → D.nx σ' H'
  | .bk env => ∀ O' σ' H', Sub B I O O' → Sta K B O' I σ' H' env → σ'[i]? = σ[i]? → D.bk σ' H'
  | .ct env => ∀ O' σ' H', Sub B I O O' → Sta K B O' I σ' H' env → σ'[i]? = σ[i]? → D.ct σ' H'
  | .rt _ _ => False
/-- sound, and the i-th name keeps what it has -/
def SndK (K : PySem.W.Frag) (i : Nat) (t : TS) (g : SFn) : Prop := ∀ B O I σ H env o, Sta K B O I σ H env → g env = some o → ∀ D, OutOkI K B O I i σ D o → t D σ H
theorem sk_asg {k : Nat} (hk : (i == k) = false) (h1 : Snd K te fe) : SndK K i (tAsg te (gName k)) (fAsg fe (gfName k)) := by
  intro B O I σ H env o S e D q
  obtain ⟨⟨r1, env1⟩, e1, e⟩ := bnd e
  dsimp only at e
  split at e
  · rename_i d hd
    obtain ⟨env2, e2, e⟩ := bnd e
    cases e
    refine h1 B O I σ H env r1 env1 S e1 _ fun v H1 P1 => ?_
    have P1' := P1.frz
    rw [hd] at P1'
    have S2 : Sta K B O I (σ.set k (some v)) H1 env2 := sg_name k B O I σ H1 env1 v d env2 P1'.1 P1'.2 e2 (fun σ' H' => Sta K B O I σ' H' env2) fun σ' S' => S'
    have c : i ≠ k := by simpa using hk
    exact q O (σ.set k (some v)) H1 .refl S2 (List.getElem?_set_ne (Ne.symm c))
  · cases e
def fForK (i j : Nat) (b : SFn) : SFn := fun env => match env[i]? with
  | some (.nw (.dct kvs)) => if i = j then none else (loopN (gfName j) b (keysN kvs) (env.set i .no)).bind fun o => match o with
    | .nx e => (match e[i]? with
      | some .no => some (.nx (e.set i (.nw (.dct kvs))))
      | _ => none)
    | _ => none
  | _ => none
theorem ss_forK {j : Nat} {tb : TS} {b : SFn} (hb : SndK K i tb b) : SndS K W (tLock (tFor (iKeys (tVar i)) (gName j) tb)) (fForK i j b) := by
  intro B O I σ H env o S e D k
  unfold fForK at e
  split at e
  · rename_i kvs hi
    split at e
    · cases e
    · rename_i hij
      obtain ⟨o1, e1, e⟩ := bnd e
      obtain ⟨p, h1, ⟨kl, h3, h4⟩, _, h5, _, _⟩ := S.nw i _ hi
      obtain ⟨pO, pB⟩ := h5 p adsOf_self
      refine ⟨p, .dT kl, h3, trivial, fun od => ?_⟩
      have S1 : Sta K (upd B p (.frz od (.dT kl))) O I σ (upd H p (.frz od (.dT kl))) (env.set i .no) := S.lockD hi h1
      have hd : upd H p (.frz od (.dT kl)) p = some (.frz od (.dT kl)) := upd_same
      have em : mi (upd H p (.frz od (.dT kl))) O = mi H O := mi_upd_in pO
      have bs : Same B (upd B p (.frz od (.dT kl))) := fun a o h => by
        rw [upd_ne (fun z => by subst z; rw [pB] at h; cases h)]
        exact h
      generalize env.set i .no = env1 at S1 e1
      generalize hH1 : upd H p (.frz od (.dT kl)) = H1 at S1 hd em
      have hkp : keepH σ env1 H1 p = some (.frz od (.dT kl)) := S1.not_own (o := .frz od (.dT kl)) upd_same
      have hkb : Same B (keepH σ env1 H1) := bs.trans S1.base_keep
      refine ⟨.ref p, h1, p, od, rfl, .inr ⟨kl, hd, ?_⟩⟩
      -- the end
      have fin : ∀ O' σ' H' e7, Sub (keepH σ env1 H1) I O O' → Sta K (keepH σ env1 H1) O' I σ' H' e7 → σ'[i]? = some (some (.ref p)) → o1 = .nx e7 → H' p = some (.frz od (.dT kl)) ∧ D.nx σ' (upd H' p (.dT kl)) := fun O' σ' H' e7 s7 S7 hs7 eo => by
        subst eo
        dsimp only at e
        refine ⟨S7.base _ _ hkp, ?_⟩
        split at e
        · rename_i hno
          cases e
          have pO' : p ∈ O' := s7.1 p pO (.inl (by rw [hkp]; exact fun z => nomatch z))
          have sm : Same (mi H O) (mi H' O') := by
            rw [← em]
            exact stays S1 s7 S7
          exact k O' σ' _ (s7.weak hkb) ((S7.weak S1.base_keep).unlockD hno hs7 pO' pB (h4.mono sm))
        · cases e
      refine ⟨fun n m σ' H' => ∃ O' env', Sub (keepH σ env1 H1) I O O' ∧ Sta K (keepH σ env1 H1) O' I σ' H' env' ∧ σ'[i]? = some (some (.ref p)) ∧ n + m = (keysN kvs).length ∧ loopN (gfName j) b ((keysN kvs).drop n) env' = some o1,
        ⟨(keysN kvs).length, O, env1, .refl, S1.strong, h1, by omega, by simpa using e1⟩, fun n m σ' H' ⟨O', env2, s2, S2, hs2, en, e2⟩ => ?_⟩
      obtain ⟨i1, i2, i3⟩ := iter_keysN (S2.base _ _ hkp) h4 S2.nt
      cases m with
      | zero =>
        have ei : n = (keysN kvs).length := by omega
        subst ei
        rw [List.drop_length] at e2
        cases e2
        exact .inl ⟨i2, fin O' σ' H' env2 s2 S2 hs2 rfl⟩
      | succ m =>
        have hn : n < (keysN kvs).length := by omega
        rw [List.drop_eq_getElem_cons hn] at e2
        obtain ⟨env3, e3, e4⟩ := bnd e2
        obtain ⟨o2, e5, e6⟩ := bnd e4
        refine .inr ⟨i1 n hn, fun σ3 H3 => ∃ O3 env3, Sub (keepH σ env1 H1) I O O3 ∧ Sta K (keepH σ env1 H1) O3 I σ3 H3 env3 ∧ σ3[i]? = some (some (.ref p)) ∧ loopN (gfName j) b ((keysN kvs).drop (n + 1)) env3 = some o1, fun σ3 H3 ⟨O3, env3, s3, S3, hs3, q3⟩ => ⟨m, by omega, O3, env3, s3, S3, hs3, by omega, q3⟩, fun x H3 hy => ?_⟩
        obtain ⟨eH, dx⟩ := i3 n _ x H3 (List.getElem?_eq_getElem hn) hy
        subst eH
        have S4 : Sta K (keepH σ env1 H1) O' I (σ'.set j (some x)) H3 env3 := sg_name j _ O' I σ' H3 env2 x _ env3 S2 dx e3 (fun σ' H' => Sta K (keepH σ env1 H1) O' I σ' H' env3) fun σ' S' => S'
        have hs4 : (σ'.set j (some x))[i]? = some (some (.ref p)) := by
          rw [List.getElem?_set_ne (Ne.symm hij)]
          exact hs2
        refine hb _ O' I _ H3 env3 o2 S4 e5 _ ?_
        cases o2 with
        | nx e7 => exact fun O5 σ5 H5 s5 S5 h5 => ⟨O5, e7, s2.trans s5, S5, h5.trans hs4, e6⟩
        | ct e7 => exact fun O5 σ5 H5 s5 S5 h5 => ⟨O5, e7, s2.trans s5, S5, h5.trans hs4, e6⟩
        | bk e7 => exact fun O5 σ5 H5 s5 S5 h5 => fin O5 σ5 H5 e7 (s2.trans s5) S5 (h5.trans hs4) (Option.some.inj e6).symm
        | rt r e7 =>
          cases e6
          cases e
  · cases e
/-! ### [.. for k in d] -/
def fLcK (i : Nat) (g : GF) (tt : TF) (fe : EF) (vs : List Nat) : EF := fun env => match env[i]? with
  | some (.nw (.dct kvs)) => (fLc (fun e => some (keysN kvs, e)) g tt fe vs (env.set i .no)).bind fun r => match r.1, r.2[i]? with
    | .new ds, some .no => some (.new ds, r.2.set i (.nw (.dct kvs)))
    | _, _ => none
  | _ => none
theorem mi_upd_out {a : Addr} {o : HO} {X : List Addr} (h : a ∉ X) : mi (upd H a o) X = upd (mi H X) a o := by
  funext b
  by_cases c : b = a
  · subst c
    rw [upd_same]
    exact mi_of h upd_same
  · rw [upd_ne c]
    unfold mi
    rw [upd_ne c]
theorem snd_lcK {g : TG} {h : GF} {tt : TT} {ft : TF} {vs : List Nat} (hg : SndW K vs g h) (ht : SndT K tt ft) (he : Snd K te fe) : Snd K (tLockE (tLc (iKeys (tVar i)) g tt te vs)) (fLcK i h ft fe vs) := by
  intro B O I σ H env rv env' S e Q q
  unfold fLcK at e
  split at e
  · rename_i kvs hi
    obtain ⟨⟨r0, envF⟩, e1, e⟩ := bnd e
    obtain ⟨w00, ew0, e1⟩ := bnd e1
    cases ew0
    obtain ⟨w0, ew, e1⟩ := bnd e1
    obtain ⟨⟨all, envE⟩, e2, e1⟩ := bnd e1
    dsimp only at ew e2 e1 e
    split at e1
    · rename_i hall
      cases e1
      split at e
      · rename_i ds hds hno
        cases hds
        cases e
        obtain ⟨p, h1, ⟨kl, h3, h4⟩, _, h5, _, _⟩ := S.nw i _ hi
        obtain ⟨pO, pB⟩ := h5 p adsOf_self
        refine ⟨p, .dT kl, h3, trivial, fun od => ?_⟩
        have S1 : Sta K (upd B p (.frz od (.dT kl))) O I σ (upd H p (.frz od (.dT kl))) (env.set i .no) := S.lockD hi h1
        have hd : upd H p (.frz od (.dT kl)) p = some (.frz od (.dT kl)) := upd_same
        have em : mi (upd H p (.frz od (.dT kl))) O = mi H O := mi_upd_in pO
        generalize env.set i .no = env1 at S1 ew hno q
        generalize hH1 : upd H p (.frz od (.dT kl)) = H1 at S1 hd em
        have hkp : keepH σ env1 H1 p = some (.frz od (.dT kl)) := S1.not_own (o := .frz od (.dT kl)) upd_same
        refine ⟨.ref p, h1, p, od, rfl, .inr ⟨kl, hd, fun L hL => ?_⟩⟩
        have hLO : L ∉ O := not_dom S1.dom hL
        have hLp : L ≠ p := fun z => hLO (z ▸ pO)
        have hLB : keepH σ env1 H1 L = none := (keepH_same (σ := σ) (env := env1) (H := H1)).free hL
        have S0 : Sta K (keepH σ env1 H1) O I (L2.wipe σ vs) H1 w0 := S1.strong.wipe ew
        refine ⟨fun i m H => ∃ env acc done rest, Sta K (keepH σ env1 H1) O I (L2.wipe σ vs) (mi H [L]) env ∧ H L = some (.lst acc) ∧ DqA K (mi (mi H [L]) O) acc done ∧ i + m = (keysN kvs).length ∧ lcN h ft fe vs ((keysN kvs).drop i) env = some (rest, envE) ∧ done ++ rest = all,
          ⟨(keysN kvs).length, w0, [], [], all, by rw [mi_one_new hL]; exact S0, upd_same, .nil, by omega, by simpa using e2, rfl⟩, fun n m H ⟨env2, acc, done, rest, S2, hA, hD, en, e3, ed⟩ => ?_⟩
        have fz0 : Same (mi H1 O) (mi H (L :: O)) := fun a o z => by
          obtain ⟨z1, z2⟩ := mi_some z
          rw [← mi_mi]
          refine mi_of z1 (S2.base a o ?_)
          rw [keepH_not (fun y => z1 (S1.owns_in y))]
          exact z2
        have S3 := S2.show hA
        have hp3 : H p = some (.frz od (.dT kl)) := (mi_some (S2.base _ _ hkp)).2
        obtain ⟨i1, i2, i3⟩ := iter_keysN hp3 h4 S3.nt
        cases m with
        | zero =>
          have ei : n = (keysN kvs).length := by omega
          subst ei
          rw [List.drop_length] at e3
          cases e3
          rw [List.append_nil] at ed
          subst ed
          have SR := (Sta.rest S1 S2 (by rw [mi_mi]; exact fz0)).weak S1.base_keep
          have eU : mi (upd H p (.dT kl)) [L] = upd (mi H [L]) p (.dT kl) := mi_upd_out (fun z => hLp (List.mem_singleton.mp z).symm)
          have SU := SR.unlockD (kl := kl) (kvs := kvs) hno h1 pO pB (h4.mono (by rw [mi_mi, ← em]; exact fz0))
          have bL : B L = none := by
            have := S1.base.free hL
            rw [upd_ne hLp] at this
            exact this
          refine .inl ⟨i2, hp3, q _ _ ⟨L, acc, rfl, by rw [upd_ne hLp]; exact hA, bL, hLO, ?_, ?_⟩⟩
          · rw [eU]
            exact SU
          · rw [eU, mi_upd_in pO]
            exact hD
        | succ m =>
          have hn : n < (keysN kvs).length := by omega
          rw [List.drop_eq_getElem_cons hn] at e3
          obtain ⟨env3, e4, e5⟩ := bnd e3
          obtain ⟨⟨b, env4⟩, e6, e7⟩ := bnd e5
          refine .inr ⟨i1 n hn, fun H' => ∃ env acc done rest, Sta K (keepH σ env1 H1) O I (L2.wipe σ vs) (mi H' [L]) env ∧ H' L = some (.lst acc) ∧ DqA K (mi (mi H' [L]) O) acc done ∧ lcN h ft fe vs ((keysN kvs).drop (n + 1)) env = some (rest, envE) ∧ done ++ rest = all,
            fun H' ⟨a1, a2, a3, a4, a5, a6, a7, a8, a9⟩ => ⟨m, by omega, a1, a2, a3, a4, a5, a6, a7, by omega, a8, a9⟩, fun x H3 hy => ?_⟩
          obtain ⟨eH, dx⟩ := i3 n _ x H3 (List.getElem?_eq_getElem hn) hy
          subst eH
          have S4 := S3
          have hL3 : keepH (L2.wipe σ vs) env2 H3 L = some (.lst acc) := S4.not_own (o := .lst acc) upd_same
          have base3 : Same (upd (keepH σ env1 H1) L (.lst acc)) (keepH (L2.wipe σ vs) env2 H3) := S4.base_keep
          refine hg _ _ I _ H3 env2 x _ env3 S4.strong dx e4 _ fun σ4 w4 S5 => ⟨by rw [w4, wipe_idem], ?_⟩
          refine ht _ _ I σ4 H3 env3 b env4 S5 e6 _ fun H5 S6 => ?_
          have st : ∀ {H6 : Hp} {σ6 : L2.St} {env6 : Env}, Sta K (keepH (L2.wipe σ vs) env2 H3) (L :: O) I σ6 H6 env6 → Same (mi H3 (L :: O)) (mi H6 (L :: O)) := fun {H6 σ6 env6} Z => stays S4 .refl Z
          cases b with
          | false =>
            rw [if_neg Bool.false_ne_true]
            obtain ⟨w5, e8, e9⟩ := bnd e7
            have S7 := ((S6.wipe e8).weak base3).hide hLO hLB
            rw [w4, wipe_idem] at S7
            refine ⟨w5, acc, done, rest, S7, S6.base _ _ hL3, ?_, e9, ed⟩
            rw [mi_mi] at hD ⊢
            exact DqA.mono (st S6) _ _ hD
          | true =>
            rw [if_pos rfl]
            obtain ⟨⟨r6, env6⟩, e8, e9⟩ := bnd e7
            dsimp only at e9
            split at e9
            · rename_i y hy6
              obtain ⟨w5, f1, f2⟩ := bnd e9
              obtain ⟨⟨rest', env7⟩, f3, f4⟩ := bnd f2
              cases f4
              refine he _ _ I σ4 H5 env4 r6 env6 S6 e8 _ fun vy H6 P6 => ?_
              have P6' := P6.frz
              rw [hy6] at P6'
              obtain ⟨S7, dy⟩ := P6'
              have hA6 := S7.base _ _ hL3
              have ll : acc.length < sizeLine := by
                rw [hD.length]
                refine line_lt ?_
                rw [← ed, List.length_append] at hall
                omega
              refine ⟨acc, hA6, ll, w5, acc ++ [vy], done ++ [y], rest', ?_, upd_same, ?_, f3, by rw [← ed]; simp⟩
              · have S8 := ((S7.wipe f1).weak base3).hide hLO hLB
                rw [w4, wipe_idem] at S8
                rw [mi_upd_in (List.mem_singleton.mpr rfl)]
                exact S8
              · rw [mi_upd_in (List.mem_singleton.mpr rfl)]
                rw [mi_mi] at hD ⊢
                exact (DqA.mono (st S7) _ _ hD).append (.cons dy .nil)
            · cases e9
      · cases e
    · cases e1
  · cases e
variable {PO : Out → Prop} {P : RV × Env → Prop}
def KForK (i : Nat) (kvs : List (List Int × D)) (PO : Out → Prop) : Out → Prop
  | .nx e => e[i]? = some .no ∧ PO (.nx (e.set i (.nw (.dct kvs))))
  | _ => False
theorem w_forK_of {j : Nat} {b : SFn} (hi : env[i]? = some (.nw (.dct kvs))) (hij : (i == j) = false) (h : Ok (loopN (gfName j) b (keysN kvs) (env.set i .no)) (KForK i kvs PO)) : Ok (fForK i j b env) PO := by
  obtain ⟨o, e, h⟩ := h
  unfold fForK
  rw [hi]
  dsimp only
  rw [if_neg (by simpa using hij), e]
  cases o with
  | nx e2 =>
    obtain ⟨h1, h2⟩ := h
    refine ⟨_, ?_, h2⟩
    rw [Option.bind_some]
    dsimp only
    rw [h1]
  | _ => exact h.elim
def KLcK (i : Nat) (kvs : List (List Int × D)) (P : RV × Env → Prop) : RV × Env → Prop := fun a => ∃ ds, a.1 = .new ds ∧ a.2[i]? = some .no ∧ P (.new ds, a.2.set i (.nw (.dct kvs)))
theorem w_lcK_of {g : GF} {tt : TF} {fe : EF} {vs : List Nat} (hi : env[i]? = some (.nw (.dct kvs))) (h : Ok (fLc (fun e => some (keysN kvs, e)) g tt fe vs (env.set i .no)) (KLcK i kvs P)) : Ok (fLcK i g tt fe vs env) P := by
  obtain ⟨⟨r, e2⟩, e, ds, h1, h2, h3⟩ := h
  dsimp only at h1 h2 h3
  subst h1
  unfold fLcK
  rw [hi]
  dsimp only
  rw [e]
  refine ⟨_, ?_, h3⟩
  rw [Option.bind_some]
  dsimp only
  rw [h2]
end
end Dv

/-! a law whose own def runs where no thing is being shown: repr of data -/
namespace Dv
open PySem PySem.Spec PyProof.Rows L2
/-- a def's promise where no thing is being shown -/
def RunG (P : Program) (w : World) (K : PySem.W.Frag) (mg : Str → Option Value) (base : Heap) (CX : CXT) (k : Nat) (f : Addr) (fd : FuncData) (ps : List Str) (sp : Sp) : Prop :=
  ∀ (A : Around) (outer : List PySem.Env) (s : Shared) (H : Hp) (args : Args) (us : List Value) (vs : List V) (Q : VK) (E : XK), A.guards = some [] → Room k A → Env0 P w K mg base A outer s H → BindsTo s fd args (ps.zip us) → Vals vs us → sp vs H Q E →
    codeAny (model P w) A (.call (.ref f) args) (CR CX outer P w H s Q E) s
section
variable {P : Program} {w : World} {K : PySem.W.Frag} {mg mb : Str → Option Value} {h : Heap} {H : Hp} {a : Addr} {vs : List Value} {ns : List Int}
/-- what is tracked is the script at most: the rest of the heap is the base -/
theorem rest_ns (ha : h.get? a = some { cls := .type "list", data := .seq vs.toArray }) (one : ∀ b, H b ≠ none → b = a) {L : Addr} {m : Str → Option Value} (n : h.Ns L m) : (hidT h H).Ns L m := by
  obtain ⟨o, es, ep, e, d, r⟩ := n
  refine ⟨o, es, ep, hidT_get e ?_, d, r⟩
  refine Classical.byContradiction fun z => ?_
  have q := one L z
  subst q
  rw [ha] at e
  cases e
  cases (show Data.seq vs.toArray 0 = Data.dict es ep from d)
theorem rest_in (KX : K.In h) (one : ∀ b, H b ≠ none → b = a) (free : H a ≠ none → K.lookup a = none) : K.In (hidT h H) := fun b o e => by
  refine hidT_get (KX b o e) (Classical.byContradiction fun z => ?_)
  have q := one b z
  subst q
  rw [free z] at e
  cases e
theorem top_run {CX : CXT} {k : Nat} {fa : Addr} {fd : FuncData} {x : Str} {sp : Sp} {s₁ : Shared} (KX : K.In s₁.heap) (hns : s₁.heap.Ns mainGlobals mg) (hb : s₁.heap.Ns builtinsNs mb) (hbb : ∀ x : Str, x ≠ "__name__" → mb x = bootBuiltins x) (hlim : s₁.heap.NoLimit) (hg : s₁.gens = #[])
    (ha : s₁.heap.get? a = some { cls := .type "list", data := .seq vs.toArray }) (hr : Room k callerA)
    (F : ∀ base : Heap, K.In base → base.Ns mainGlobals mg → RunG P w K mg base CX k fa fd [x] sp) (hbind : ∀ (s : Shared) (u : Value), BindsTo s fd ⟨[u], []⟩ [(x, u)])
    (hCX : ∀ e s', CX [] H s₁ (fun _ _ _ => False) e s' → False) (only : Only H) (hsp : sp [.ref a] H (fun v _ => v = .bl true) fun _ _ _ => False) (ok : HOk P w H s₁.heap) (one : ∀ b, H b ≠ none → b = a) (free : H a ≠ none → K.lookup a = none) :
    codeAny (model P w) callerA (.call (.ref fa) ⟨[.ref a], []⟩) (fun r s' => r = .ok (.ret (.bool true)) ∧ OldK s₁.heap s'.heap ∧ s'.os = s₁.os ∧ AllBare s'.gens) s₁ := by
  have kb := rest_in KX one free
  have nb := fun {L : Addr} {m : Str → Option Value} (n : s₁.heap.Ns L m) => rest_ns ha one n
  obtain ⟨mc, l1, l2⟩ := hlim
  have E0 : Env0 P w K mg (hidT s₁.heap H) callerA [] s₁ H := by
    refine ⟨rfl, ⟨kb, nb hns, ⟨mb, nb hb, hbb⟩, ⟨mc, nb l1, l2⟩⟩, fun b o e => of_hidT e, Nat.le_of_eq (hidT_size _ _), trivial, fun b hb => ?_, ok, .of_eq hg⟩
    cases (show b ∈ ([] : List Addr) from hb)
  have run := F _ kb (nb hns) callerA [] s₁ H ⟨[.ref a], []⟩ [.ref a] [.ref a] _ _ rfl hr E0 (hbind s₁ (.ref a)) (.cons rfl .nil) hsp
  refine codeAny_mono run fun r s' q => ?_
  match r, q with
  | .error e, q => exact (hCX e s' q).elim
  | .ok (.ret u), q =>
    obtain ⟨v, H', os, bare, un, ok', rv, hv⟩ := q
    have hv : v = .bl true := hv
    subst hv
    cases (show u = Value.bool true from rv)
    refine ⟨rfl, OldK.of_keep fun b o e => ?_, os, bare⟩
    rcases only b with z | ⟨ob, xs, z⟩
    · exact un.keep b o e z (fun y => nomatch (show b ∈ ([] : List Addr) from y)) (fun y => nomatch y)
    · have e1 := (ok b _ z).1
      have e2 := (ok' b _ (un.frzs b ob _ z)).1
      rw [e] at e1
      cases e1
      exact e2
/-- the law's def at the top -/
theorem top_call {CX : CXT} {k : Nat} {fa : Addr} {fd : FuncData} {x : Str} {sp : Sp} {s₁ : Shared} (KX : K.In s₁.heap) (hns : s₁.heap.Ns mainGlobals mg) (hb : s₁.heap.Ns builtinsNs mb) (hbb : ∀ x : Str, x ≠ "__name__" → mb x = bootBuiltins x) (hlim : s₁.heap.NoLimit) (hg : s₁.gens = #[])
    (ha : s₁.heap.get? a = some { cls := .type "list", data := .seq vs.toArray }) (hi : IntsAre vs ns) (hl : ns.length ≤ sizeLine) (hr : Room k callerA)
    (F : ∀ base : Heap, K.In base → base.Ns mainGlobals mg → RunG P w K mg base CX k fa fd [x] sp) (hbind : ∀ (s : Shared) (u : Value), BindsTo s fd ⟨[u], []⟩ [(x, u)])
    (hsp : ∀ H : Hp, Only H → SqL K H a (ns.map V.int) → sp [.ref a] H (fun v _ => v = .bl true) fun _ _ _ => False) (hCX : ∀ H e s', CX [] H s₁ (fun _ _ _ => False) e s' → False) :
    codeAny (model P w) callerA (.call (.ref fa) ⟨[.ref a], []⟩) (fun r s' => r = .ok (.ret (.bool true)) ∧ OldK s₁.heap s'.heap ∧ s'.os = s₁.os ∧ AllBare s'.gens) s₁ := by
  have rv := vals_ints hi
  have lv := hi.length
  have run := fun (H : Hp) (only : Only H) (sq : SqL K H a (ns.map V.int)) => top_run (H := H) KX hns hb hbb hlim hg ha hr F hbind (hCX H) only (hsp H only sq)
  match hk : K.lookup a with
  | some o =>
    have e := KX a o hk
    rw [ha] at e
    cases e
    exact run (fun _ => none) (fun _ => .inl rfl) (.inr ⟨_, vs.toArray, _, hk, rfl, rfl, rfl, by rw [List.size_toArray, lv]; exact hl, by simpa using rv⟩) (fun b u z => nomatch z) (fun b z => absurd rfl z) fun z => absurd rfl z
  | none =>
    have at1 : ∀ b, (if b = a then some (HO.frz { cls := .type "list", data := .seq vs.toArray } (.lst (ns.map V.int))) else none) ≠ none → b = a := fun b z => by
      refine Classical.byContradiction fun c => z (if_neg c)
    refine run (fun b => if b = a then some (.frz { cls := .type "list", data := .seq vs.toArray } (.lst (ns.map V.int))) else none) (fun b => ?_) (.inl (.inr ⟨_, if_pos rfl⟩)) (fun b u z => ?_) at1 fun _ => hk
    · by_cases c : b = a
      · exact .inr ⟨_, _, if_pos c⟩
      · exact .inl (if_neg c)
    · dsimp only at z
      split at z
      · rename_i c
        subst c
        cases z
        exact ⟨ha, by rw [List.length_map]; exact hl, vs, _, rv, ha⟩
      · cases z
end
theorem walk_ofG {l : PySem.W.OpenLaw} {n k : Nat} {q : Program} {loose : List Str} {XP : (Str → Option Value) → Heap → Prop} {YP : World → Heap → Prop} {d : DefRec} {K : Params → PySem.W.Frag} {CX : World → CXT} {sp : World → Sp} {x : Str}
    (hn : l.most = some n) (hn2 : n ≤ sizeLine) (hdf : d.params.defaults = []) (hr : Room k callerA) (hY : ∀ (w : World) (h : Heap), YP w h → (K w.params).In h)
    (F : ∀ (w : World) (mg : Str → Option Value) (fa : Addr) (h : Heap), (K w.params).In h → h.Ns mainGlobals mg → mg d.name = some (.ref fa) →
      ∃ fd : FuncData, (∀ (s : Shared) (u : Value), BindsTo s fd ⟨[u], []⟩ [(x, u)]) ∧ ∀ base : Heap, (K w.params).In base → base.Ns mainGlobals mg → RunG l.prog w (K w.params) mg base (CX w) k fa fd [x] (sp w))
    (hsp : ∀ (w : World) (H : Hp) (a : Addr) (ns : List Int), ns.length ≤ n → Only H → SqL (K w.params) H a (ns.map V.int) → sp w [.ref a] H (fun v _ => v = .bl true) fun _ _ _ => False)
    (hCX : ∀ (w : World) (H : Hp) (s : Shared) (e : Value) (s' : Shared), CX w [] H s (fun _ _ _ => False) e s' → False) :
    PySem.W.WalkO q loose XP YP l.row.toRowW d [] (fun f vs => PySem.call f vs) := by
  refine Att.attach_call hn hdf fun w s₀ s₁ mg mb fa o pm cd doc a vs ns G Y ho hd hcd hmg hobj hints hlen hg => ?_
  obtain ⟨fd, b, f⟩ := F w mg fa _ (hY w _ Y) G.T.g hmg
  exact top_call (hY w _ Y) G.T.g G.T.b G.T.builtins G.T.nolimit hg hobj hints (Nat.le_trans hlen hn2) hr f b (fun H o s => hsp w H a ns hlen o s) fun H e s' => hCX w H s₁ e s'
/-! ### a def's promise there, by its body -/
theorem runG_def {P : Program} {w : World} {K : PySem.W.Frag} {mg : Str → Option Value} {base : Heap} {x qual : Str} {st : Stmt} {f : Addr} {fd : FuncData} {N ps : List Str} {k : Nat} {io : List Bool} {b : SFn} (F : Fun K x qual st f fd) (S : FnScope N ps (defScope st)) (hl : io.length = ps.length)
    (hb : ∀ (cdv : Value) (A : Around) (outer : List PySem.Env) (s : Shared) (H : Hp) (E : XK), Room k (A.deeper (envOfC qual (defScope st) s.heap.objs.size f cdv)) → (A.deeper (envOfC qual (defScope st) s.heap.objs.size f cdv)).guards = some [] →
      ∃ t, PSs (cxOf CX0 P w K mg base N qual (defScope st) f cdv A outer s H E).nox (defBody st) t ∧ SndS K W0 t b) : RunG P w K mg base CX0 (k + 1) f fd ps (spD K io (fDef (N.length - io.length) io b)) := by
  intro A outer s H args us vs Q E hg hr e0 hbind rv hsp
  obtain ⟨oc, od, kV, doc, pm, an, cdv, ct, osl, rfl, lk, hcd⟩ := F.ex
  have len : vs.length = ps.length := by
    obtain ⟨O, ds, r, fr, outs, ha, _⟩ := hsp
    rw [ha.len, hl]
  have KX : K.In s.heap := e0.mod.kin.keeps fun b o e => (e0.bs b o e).1
  have par : ∀ y ∈ ps.zip us, (defScope st).names.lookup y.1 = some .local ∨ ((defScope st).names.lookup y.1 = some .cell ∧ ((cellsFrom (s.heap.objs.size + 1) (defScope st).names []).lookup y.1).isSome = true) := fun y hy =>
    (S.par y.1 (List.of_mem_zip hy).1).imp id fun q => ⟨q, PySem.W.cellsFrom_some _ _ _ (.inl q)⟩
  obtain ⟨t, ht, hs⟩ := hb cdv A outer s H E (hr.deeper _) hg
  have hq := body_ok hs rfl hsp
  refine codeAny_call_function hr.depth (KX _ _ lk) rfl S.co S.gen rfl (PySem.W.codeRec_of KX hcd) (hbind _ _ _ _ (wpAny_newFunctionEnv_cells S.kind par fun env he s1 y => ?_))
  subst he
  refine ⟨(e0.mod.nolimit.keeps fun b o e => (e0.bs b o e).1).keeps y.toInCall.keep, codeAny_func ?_⟩
  have I : Inv (cxOf CX0 P w K mg base N qual (defScope st) f cdv A outer s H E) [] (start N vs) H s1 := inv_start S hr.hd e0 len rv y
  refine wpAny_mono (ht.nox.run [] s1 (start N vs) H _ I hq) (fun fl s' q => ?_) fun e s' q => q
  match fl, q with
  | .ret u, ⟨v, σ', H', J, rv, q⟩ => exact ⟨v, H', J.os, J.bare, J.base, J.hok, rv, q⟩
  | .next, ⟨σ', H', J, q⟩ => exact ⟨V.non, H', J.os, J.bare, J.base, J.hok, rfl, q⟩
  | .brk, ⟨_, _, _, q⟩ => exact False.elim q
  | .cont, ⟨_, _, _, q⟩ => exact False.elim q
/-! ### repr of data -/
def rRepr (K : PySem.W.Frag) : List V → Hp → VK → Prop := fun vs H Q => ∃ (v : V) (d : PyData), vs = [v] ∧ Dp K H v d ∧ d.showable = true ∧ d.hasDict = false ∧ d.depth ≤ 50 ∧ d.shown.length ≤ sizeLine ∧ Q (.str d.shown) H
theorem cr_repr {X : Cx} (hu : X.A.units + 64 < cLine) (hg : X.A.guards = some []) : CallR X (.builtin "repr") (rRepr X.K) := by
  intro pins s σ H vs us Q I r h
  obtain ⟨v, d, rfl, hd, sh, nd, dp, sz, q⟩ := h
  obtain ⟨u, rfl, rx⟩ := vals1 r
  obtain ⟨as, rd⟩ := Dp.reads I d v u hd rx
  have fin : ∀ (h' : Heap) (t : Tok) (tk : Nat), (∀ b o, s.heap.get? b = some o → h'.get? b = some o) → EP X pins σ Q (.str d.shown t) { s with heap := h', toks := tk } := fun h' t tk k => ⟨.str d.shown, H, I.kept k, ⟨t, rfl⟩, q⟩
  cases rd with
  | none => exact P.repr_of_none (fin _ _ _ fun _ _ e => e)
  | bool b => exact P.repr_of_bool (fin _ _ _ fun _ _ e => e)
  | int i t => exact P.repr_of_int (by simpa [PyData.showable] using sh) (fin _ _ _ fun _ _ e => e)
  | str x t => exact P.repr_of_str (fin _ _ _ fun _ _ e => e) sz
  | list h1 h2 h3 h4 => exact repr_of_reads' (.list h1 h2 h3 h4) sh (PyData.noDict_hsm nd) hg (by omega) (fun _ _ e => e) (fun h' u tk k => fin h' u tk k) sz
  | tuple h1 h2 h3 h4 => exact repr_of_reads' (.tuple h1 h2 h3 h4) sh (PyData.noDict_hsm nd) hg (by omega) (fun _ _ e => e) (fun h' u tk k => fin h' u tk k) sz
  | dict h1 h2 h3 h4 h5 => exact repr_of_reads' (.dict h1 h2 h3 h4 h5) sh (PyData.noDict_hsm nd) hg (by omega) (fun _ _ e => e) (fun h' u tk k => fin h' u tk k) sz
def canShow (d : D) : Bool := PyData.canLay0 (toPy d) && (toPy d).showable && decide ((toPy d).depth ≤ 50) && decide ((toPy d).shown.length ≤ sizeLine)
def gRepr : GB
  | [d] => if canShow d = true then some (.val (.str (toPy d).shown)) else none
  | _ => none
theorem cg_repr {K : PySem.W.Frag} : CallG K (rRepr K) gRepr := by
  intro B O I σ H env vs rs ds z S P e ez Q q
  unfold gRepr at ez
  split at ez
  · rename_i d
    split at ez
    · rename_i hc
      cases ez
      obtain ⟨v, r, rfl, P1, e1⟩ := one_of P e
      have d1 := P1.read e1
      unfold canShow at hc
      simp only [Bool.and_eq_true, decide_eq_true_eq] at hc
      obtain ⟨⟨⟨c1, c2⟩, c3⟩, c4⟩ := hc
      exact ⟨v, toPy d, rfl, Dq.py d v d1 c1, c2, PyData.hasDict_of_canLay _ c1, c3, c4, q _ H ⟨S, .str _⟩⟩
    · cases ez
  · cases ez
/-! ### tuple(x) of a list, of a tuple -/
def gTupOf : GB
  | [.lst ds] => some (.val (.tup ds))
  | _ => none
theorem cg_tupOf {K : PySem.W.Frag} : CallG K (fun xs H Q => ∃ p ys, xs = [.ref p] ∧ ((SqL K H p ys ∧ ∀ l, H l = none → Q (.ref l) (upd H l (.tup ys))) ∨ (SqT K H p ys ∧ Q (.ref p) H))) gTupOf := by
  intro B O I σ H env vs rs ds z S P e ez Q q
  unfold gTupOf at ez
  split at ez
  · obtain ⟨v, r, rfl, P1, e1⟩ := one_of P e
    obtain ⟨p1, xs, rfl, h1, k1⟩ := P1.items e1
    cases ez
    exact ⟨p1, xs, rfl, .inl ⟨.inl (.inl h1), fun l hl => q _ _ (post_tup S hl k1)⟩⟩
  · cases ez
/-! ### texts added, texts cut -/
def gAddS : G2
  | .str a, .str b => if a.length + b.length ≤ 10000000 then some (.val (.str (a ++ b))) else none
  | _, _ => none
theorem op2_addS {K : PySem.W.Frag} : Op2 K (fun x y H Q => ∃ i j, x = .str i ∧ y = .str j ∧ i.length + j.length ≤ sizeLine ∧ Q (.str (i ++ j)) H) gAddS := by
  intro B O I σ H env x y ra rb d e z P1 P2 e1 e2 ez Q q
  unfold gAddS at ez
  split at ez
  · split at ez
    · rename_i hc
      cases ez
      have d1 := P1.read e1
      have d2 := P2.read e2
      cases d1
      cases d2
      exact ⟨_, _, rfl, rfl, line_of hc, q _ H ⟨P1.sta, .str _⟩⟩
    · cases ez
  · cases ez
def gSlS : GS := fun d lo hi => match d with
  | .str x => if x.length ≤ 10000000 then some (.val (.str (L2.cutS x lo hi))) else none
  | _ => none
theorem os_str {K : PySem.W.Frag} : OpS K L2.rSlS gSlS := by
  intro B O I σ H env x ra d lo hi z P e ez Q q
  unfold gSlS at ez
  split at ez
  · split at ez
    · rename_i hc
      cases ez
      have d1 := P.read e
      cases d1
      exact ⟨_, rfl, line_of hc, q _ H ⟨P.sta, .str _⟩⟩
    · cases ez
  · cases ez
/-! ### != of texts -/
def gNeS : G2
  | .str a, .str b => some (.val (.bl (!(a == b))))
  | _, _ => none
theorem op2_neS {K : PySem.W.Frag} : Op2 K rNe gNeS := by
  intro B O I σ H env x y ra rb d e z P1 P2 e1 e2 ez Q q
  unfold gNeS at ez
  split at ez
  · cases ez
    have d1 := P1.read e1
    have d2 := P2.read e2
    cases d1
    cases d2
    refine ⟨rfl, ?_⟩
    rw [dec_str]
    exact q _ H ⟨P1.sta, .bl _⟩
  · cases ez
end Dv

/-! own lists: xs[j], xs[k] = a, b; xs.insert(j, e); xs.pop(j) (j, k names of whole numbers) -/
namespace Dv
open PySem L2
section
variable {K : PySem.W.Frag} {B : Hp} {O : List Addr} {I : List (Nat × Addr)} {σ : L2.St} {H : Hp} {env : Env} {W : WN} {te : TE} {fe : EF}
def rIns : V → List V → Hp → VK → Prop := fun x vs H Q => ∃ (l : Addr) (xs : List V) (i : Int) (y : V), x = .ref l ∧ vs = [.int i, y] ∧ H l = some (.lst xs) ∧ xs.length < sizeLine ∧ 0 ≤ i ∧ i < 2 ^ 63 ∧
    Q .non (upd H l (.lst (xs.take i.toNat ++ [y] ++ xs.drop i.toNat)))
theorem mt_insertR {X : Cx} : MtR X "list.insert" rIns := mt_insert
def intAt (env : Env) (j : Nat) : Option Int := match env[j]? with
  | some (.fz (.int m)) => some m
  | _ => none
theorem intAt_of {j : Nat} {m : Int} (h : intAt env j = some m) : env[j]? = some (.fz (.int m)) := by
  unfold intAt at h
  split at h
  · rename_i e
    cases h
    exact e
  · cases h
/-! ### xs.insert(j, e) -/
def hIns (m : Int) (d : D) : List D → Option (List D) := fun ds => if ds.length ≤ 10000000 ∧ 0 ≤ m ∧ m < 2 ^ 63 then some (ds.take m.toNat ++ [d] ++ ds.drop m.toNat) else none
def fIns (i j : Nat) (f : EF) : EF := fun env => if isOwn env i then (intAt env j).bind fun m => (f env).bind fun a => match frz a.1 with
  | .val d => (upO i (hIns m d) a.2).bind fun e => some (.val .non, e)
  | _ => none
  else none
theorem snd_ins {i j : Nat} (he : Snd K te fe) : Snd K (tBM K "list" rIns (tVar i) (tCons (tVar j) (tCons te tNil))) (fIns i j fe) := by
  intro B O I σ H env rv env' S e Q q
  unfold fIns at e
  split at e
  · rename_i ho
    obtain ⟨ds0, o0⟩ := isOwn_of ho
    obtain ⟨p0, xs0, s0, p0O, hp0, _, _⟩ := S.ow i ds0 o0
    obtain ⟨m, em, e⟩ := bnd e
    obtain ⟨vm, sm, dm⟩ := S.fz j _ (intAt_of em)
    cases dm
    obtain ⟨⟨r1, env1⟩, e1, e⟩ := bnd e
    dsimp only at e
    split at e
    · rename_i d hd
      obtain ⟨env2, e2, e⟩ := bnd e
      cases e
      refine ⟨_, s0, tyL hp0, _, sm, ?_⟩
      refine he B O I σ H env r1 env1 S e1 _ fun x H1 P1 => ?_
      have P := P1.frz
      rw [hd] at P
      obtain ⟨S1, dx⟩ := P
      obtain ⟨p, xs, ds, es, s1, hp, hx, _, eh, up⟩ := S1.up e2
      rw [s0] at s1
      cases s1
      unfold hIns at eh
      split at eh
      · rename_i hc
        cases eh
        refine ⟨p0, xs, m, x, rfl, rfl, hp, by rw [hx.length]; exact line_lt hc.1, hc.2.1, hc.2.2, ?_⟩
        exact q _ _ ⟨up _ (((hx.take _).append (.cons dx .nil)).append (hx.drop _)), .non⟩
      · cases eh
    · cases e
  · cases e
theorem w_ins_of {i j : Nat} {m : Int} {P : RV × Env → Prop} (h1 : isOwn env i = true) (h2 : intAt env j = some m) (h3 : Ok (fe env) (KOM i (hIns m) P)) : Ok (fIns i j fe env) P := by
  unfold fIns
  rw [if_pos h1, h2]
  obtain ⟨⟨r, e⟩, e1, h⟩ := h3
  unfold KOM at h
  dsimp only at h
  split at h
  · rename_i d hd
    obtain ⟨e2, e3, h⟩ := h
    refine ⟨_, ?_, h⟩
    show (fe env).bind _ = _
    rw [e1]
    show (match frz r with | .val d => (upO i (hIns m d) e).bind fun e => some (RV.val D.non, e) | _ => none) = _
    rw [hd]
    show (upO i (hIns m d) e).bind _ = _
    rw [e3]
    rfl
  · exact h.elim
theorem w_hIns {m : Int} {d : D} {ds : List D} {Q : List D → Prop} (h1 : ds.length ≤ 10000000) (h2 : 0 ≤ m) (h3 : m < 2 ^ 63) (h : Q (ds.take m.toNat ++ [d] ++ ds.drop m.toNat)) : Ok (hIns m d ds) Q := ⟨_, if_pos ⟨h1, h2, h3⟩, h⟩
/-! ### xs.pop(j) -/
def fPopAt (i j : Nat) : EF := fun env => (intAt env j).bind fun m => match deref env (.slot i) with
  | some (.lst ds) => if 0 ≤ m ∧ m < 2 ^ 63 then (ds[m.toNat]?).bind fun d => (upO i (fun ds => some (ds.eraseIdx m.toNat)) env).bind fun e => some (.val d, e) else none
  | _ => none
theorem DqA.erase {G : Hp} {vs : List V} {ds : List D} (n : Nat) (h : DqA K G vs ds) : DqA K G (vs.eraseIdx n) (ds.eraseIdx n) := by
  rw [List.eraseIdx_eq_take_drop_succ, List.eraseIdx_eq_take_drop_succ]
  exact (h.take _).append (h.drop _)
theorem snd_popAt {i j : Nat} : Snd K (tBM K "list" rPopAt (tVar i) (tCons (tVar j) tNil)) (fPopAt i j) := by
  intro B O I σ H env rv env' S e Q q
  unfold fPopAt at e
  obtain ⟨m, em, e⟩ := bnd e
  obtain ⟨vm, sm, dm⟩ := S.fz j _ (intAt_of em)
  cases dm
  split at e
  · rename_i ds0 hd0
    split at e
    · rename_i hc
      obtain ⟨d, e1, e⟩ := bnd e
      obtain ⟨env2, e2, e⟩ := bnd e
      cases e
      obtain ⟨ds1, e3, o0⟩ := ownAt_of hd0
      cases e3
      obtain ⟨p, xs, ds, es, s1, hp, hx, o1, eh, up⟩ := S.up e2
      cases eh
      have ed : ds = ds0 := by
        rcases o0 with z | z <;> rcases o1 with y | y <;> rw [z] at y <;> cases y <;> rfl
      subst ed
      obtain ⟨x, g1, g2⟩ := hx.get e1
      have hl := (List.getElem?_eq_some_iff.mp g1).1
      refine ⟨_, s1, tyL hp, _, sm, p, xs, m, m.toNat, x, rfl, rfl, hp, by omega, hc.2, ?_, g1, q _ _ ⟨up _ (hx.erase _), ?_⟩⟩
      · have hj : (if m < 0 then m + (xs.length : Int) else m) = m := if_neg (by omega)
        unfold seqIndex?
        simp only [hj]
        have : ((decide (0 ≤ m) && decide (m < (xs.length : Int))) = true) := by
          rw [Bool.and_eq_true, decide_eq_true_eq, decide_eq_true_eq]
          omega
        rw [if_pos this]
      · have hpO : p ∈ O := by
          obtain ⟨p', xs', s2, k2, _⟩ := S.ow i ds o1
          rw [s1] at s2
          cases s2
          exact k2
        rw [mi_upd_in hpO]
        exact g2
    · cases e
  · cases e
theorem w_popAt_of {i j : Nat} {m : Int} {ds : List D} {d : D} {e : Env} {P : RV × Env → Prop} (h1 : intAt env j = some m) (h2 : deref env (.slot i) = some (.lst ds)) (h3 : 0 ≤ m) (h4 : m < 2 ^ 63) (h5 : ds[m.toNat]? = some d) (h6 : upO i (fun ds => some (ds.eraseIdx m.toNat)) env = some e) (h : P (.val d, e)) : Ok (fPopAt i j env) P := by
  refine ⟨_, ?_, h⟩
  unfold fPopAt
  rw [h1]
  show (match deref env (.slot i) with | some (.lst ds) => if 0 ≤ m ∧ m < 2 ^ 63 then (ds[m.toNat]?).bind fun d => (upO i (fun ds => some (ds.eraseIdx m.toNat)) env).bind fun e => some (RV.val d, e) else none | _ => none) = _
  rw [h2]
  show (if 0 ≤ m ∧ m < 2 ^ 63 then (ds[m.toNat]?).bind _ else none) = _
  rw [if_pos ⟨h3, h4⟩, h5]
  show (upO i (fun ds => some (ds.eraseIdx m.toNat)) env).bind _ = _
  rw [h6]
  rfl
/-! ### xs[j], xs[k] = a, b -/
def setA (m : Int) (d : D) : List D → Option (List D) := fun ds => (ixN ds.length m).bind fun j => some (ds.set j d)
def fSet2 (i j k : Nat) (f : EF) : SFn := fun env => (f env).bind fun a => match frz a.1 with
  | .val (.tup [d1, d2]) => (intAt a.2 j).bind fun m => (intAt a.2 k).bind fun n => (upO i (setA m d1) a.2).bind fun e1 => (upO i (setA n d2) e1).bind fun e2 => some (.nx e2)
  | _ => none
theorem ss_set2 {i j k : Nat} (he : Snd K te fe) : SndS K W (tAsg te (gTup K 2 (gCons (L2.gSub (tVar i) (tVar j) rSetL) (gCons (L2.gSub (tVar i) (tVar k) rSetL) gNil)))) (fSet2 i j k fe) := by
  intro B O I σ H env o S e D kk
  obtain ⟨⟨r1, env1⟩, e1, e⟩ := bnd e
  dsimp only at e
  split at e
  · rename_i d1 d2 hd
    obtain ⟨m, em, e⟩ := bnd e
    obtain ⟨n, en, e⟩ := bnd e
    obtain ⟨env2, e2, e⟩ := bnd e
    obtain ⟨env3, e3, e⟩ := bnd e
    cases e
    refine he B O I σ H env r1 env1 S e1 _ fun x H1 P1 => ?_
    have P := P1.frz
    rw [hd] at P
    obtain ⟨S1, dx⟩ := P
    obtain ⟨vm, sm, dm⟩ := S1.fz j _ (intAt_of em)
    cases dm
    obtain ⟨vn, sn, dn⟩ := S1.fz k _ (intAt_of en)
    cases dn
    obtain ⟨p, xs, ds, es, s1, hp, hx, o1, eh, up⟩ := S1.up e2
    obtain ⟨a, ea, eh⟩ := bnd eh
    cases eh
    have hpO : p ∈ O := by
      obtain ⟨p', xs', s2, k2, _⟩ := S1.ow i ds o1
      rw [s1] at s2
      cases s2
      exact k2
    cases dx with
    | tup g1 g2 =>
      cases g2 with
      | cons c1 g3 =>
        cases g3 with
        | cons c2 g4 =>
          cases g4
          have S2 := up _ (hx.set a c1)
          have hx2 := hx.set a c1
          obtain ⟨p', xs', ds', es', s1', hp', hx', _, eh', up'⟩ := S2.up e3
          rw [s1] at s1'
          cases s1'
          obtain ⟨b, eb, eh'⟩ := bnd eh'
          cases eh'
          refine ⟨_, _, rfl, sqT_mono mi_same g1, rfl, _, _, rfl, _, s1, _, sm, p, xs, m, a, rfl, rfl, hp, by rw [hx.length]; exact ea, ?_⟩
          refine ⟨_, _, rfl, _, s1, _, sn, p, xs', n, b, rfl, rfl, hp', by rw [hx'.length]; exact eb, rfl, ?_⟩
          refine kk O σ _ .refl (up' _ (hx'.set b ?_))
          rw [mi_upd_in hpO]
          first | done | exact c2
  · cases e
theorem w_set2_of {i j k : Nat} {m n : Int} {d1 d2 : D} {e0 e1 e2 : Env} {PO : Out → Prop} (h0 : fe env = some (.val (.tup [d1, d2]), e0)) (h1 : intAt e0 j = some m) (h2 : intAt e0 k = some n) (h3 : upO i (setA m d1) e0 = some e1) (h4 : upO i (setA n d2) e1 = some e2) (h : PO (.nx e2)) : Ok (fSet2 i j k fe env) PO := by
  refine ⟨_, ?_, h⟩
  unfold fSet2
  rw [h0]
  show ((intAt e0 j).bind fun m => (intAt e0 k).bind fun n => (upO i (setA m d1) e0).bind fun e1 => (upO i (setA n d2) e1).bind fun e2 => some (Out.nx e2)) = _
  rw [h1, h2]
  show ((upO i (setA m d1) e0).bind _) = _
  rw [h3]
  show ((upO i (setA n d2) e1).bind _) = _
  rw [h4]
  rfl
end
/-! ### t < u, pairs of whole numbers -/
def gLtP : G2
  | .tup [.int a, .int b], .tup [.int c, .int d] => some (.val (.bl (HT.lexLt [a, b] [c, d])))
  | _, _ => none
theorem lexLt_2 {a b c d : Int} : HT.lexLt [a, b] [c, d] = decide (a < c ∨ (a = c ∧ b < d)) := by
  unfold HT.lexLt HT.lexLt HT.lexLt
  rw [Bool.eq_iff_iff]
  simp
  split <;> omega
theorem gLtP_i {a b c d : Int} : gLtP (.tup [.int a, .int b]) (.tup [.int c, .int d]) = some (.val (.bl (decide (a < c ∨ (a = c ∧ b < d))))) := by
  show some (RV.val (D.bl (HT.lexLt [a, b] [c, d]))) = _
  rw [lexLt_2]
theorem op2_ltP {K : PySem.W.Frag} : Op2 K (rLtT K) gLtP := by
  intro B O I σ H env x y ra rb d e z P1 P2 e1 e2 ez Q q
  unfold gLtP at ez
  split at ez
  · rename_i a b c d
    cases ez
    have h1 := P1.read e1
    have h2 := P2.read e2
    cases h1 with
    | @tup p us _ h3 h4 =>
      cases h2 with
      | @tup p' us' _ h5 h6 =>
        have g1 : us = [V.int a, V.int b] := DqA.isInts (ns := [a, b]) h4
        have g2 : us' = [V.int c, V.int d] := DqA.isInts (ns := [c, d]) h6
        subst g1
        subst g2
        exact ⟨_, _, [a, b], [c, d], rfl, rfl, h3, h5, q _ H ⟨P1.sta, .bl _⟩⟩
  · cases ez
end Dv

/-! dicts that stay: gone through by key (locked meanwhile, and read), sorted -/
namespace Dv
open PySem L2
section
variable {K : PySem.W.Frag} {B B' : Hp} {O : List Addr} {I : List (Nat × Addr)} {σ : L2.St} {H H' G G' : Hp} {env : Env} {W : WN} {te : TE} {fe : EF} {p : Addr} {od : Obj} {kl : List (List L2.Key × V)} {kvs : List (List Int × D)} {i : Nat}
/-- two heaps that differ at a dict alone: in one it may be locked -/
structure Swp (p : Addr) (kl : List (List L2.Key × V)) (G G' : Hp) : Prop where
  h1 : Rd G p (.dT kl)
  h2 : Rd G' p (.dT kl)
  off : ∀ a, a ≠ p → G' a = G a
theorem Swp.keep (s : Swp p kl G G') {a : Addr} {o : HO} (h : G a = some o) (n1 : ∀ l, o ≠ .dT l) (n2 : ∀ od l, o ≠ .frz od (.dT l)) : G' a = some o := by
  by_cases c : a = p
  · subst c
    rcases s.h1 with z | ⟨od, z⟩
    · rw [h] at z
      exact absurd (Option.some.inj z) (n1 _)
    · rw [h] at z
      exact absurd (Option.some.inj z) (n2 _ _)
  · rw [s.off a c]
    exact h
theorem Swp.sqT (s : Swp p kl G G') {a : Addr} {xs : List V} (h : SqT K G a xs) : SqT K G' a xs := by
  rcases h with (h | ⟨o, h⟩) | h
  · exact .inl (.inl (s.keep h (fun _ z => nomatch z) fun _ _ z => nomatch z))
  · exact .inl (.inr ⟨o, s.keep h (fun _ z => nomatch z) fun _ _ z => nomatch z⟩)
  · exact .inr h
theorem Swp.sqL (s : Swp p kl G G') {a : Addr} {xs : List V} (h : SqL K G a xs) : SqL K G' a xs := by
  rcases h with (h | ⟨o, h⟩) | h
  · exact .inl (.inl (s.keep h (fun _ z => nomatch z) fun _ _ z => nomatch z))
  · exact .inl (.inr ⟨o, s.keep h (fun _ z => nomatch z) fun _ _ z => nomatch z⟩)
  · exact .inr h
theorem Swp.rd (s : Swp p kl G G') {a : Addr} {l : List (List L2.Key × V)} (h : Rd G a (.dT l)) : Rd G' a (.dT l) := by
  by_cases c : a = p
  · subst c
    have e : l = kl := by
      rcases s.h1 with y | ⟨o, y⟩ <;> rcases h with z | ⟨o', z⟩ <;> rw [y] at z <;> cases z <;> rfl
    rw [e]
    exact s.h2
  · rcases h with h | ⟨o, h⟩
    · exact .inl (by rw [s.off a c]; exact h)
    · exact .inr ⟨o, by rw [s.off a c]; exact h⟩
mutual
theorem Dq.swap (s : Swp p kl G G') : ∀ (d : D) (v : V), Dq K G v d → Dq K G' v d
  | .non, _, h => by cases h; exact .non
  | .bl b, _, h => by cases h; exact .bl b
  | .int i, _, h => by cases h; exact .int i
  | .str x, _, h => by cases h; exact .str x
  | .adr a, _, h => by cases h; exact .adr a
  | .lst ds, _, h => by
    cases h with
    | lst h1 h2 => exact .lst (s.keep h1 (fun _ z => nomatch z) fun _ _ z => nomatch z) (DqA.swap s ds _ h2)
  | .tup ds, _, h => by
    cases h with
    | tup h1 h2 => exact .tup (s.sqT h1) (DqA.swap s ds _ h2)
  | .scr ns, _, h => by
    cases h with
    | scr h1 => exact .scr (s.sqL h1)
  | .nt ds, _, h => by
    cases h with
    | nt h1 h2 => exact .nt (s.keep h1 (fun _ z => nomatch z) fun _ _ z => nomatch z) (DqA.swap s ds _ h2)
  | .dct ks ds, _, h => by
    cases h with
    | dct h1 h2 h3 => exact .dct (s.rd h1) h2 (DqA.swap s ds _ h3)
theorem DqA.swap (s : Swp p kl G G') : ∀ (ds : List D) (vs : List V), DqA K G vs ds → DqA K G' vs ds
  | [], _, h => by cases h; exact .nil
  | d :: ds, _, h => by
    cases h with
    | cons h1 h2 => exact .cons (Dq.swap s d _ h1) (DqA.swap s ds _ h2)
end
theorem DqK.swap (s : Swp p kl G G') : ∀ {ks : List (List L2.Key × V)} {kvs : List (List Int × D)}, DqK K G ks kvs → DqK K G' ks kvs
  | [], [], _ => trivial
  | [], _ :: _, h => h.elim
  | _ :: _, [], h => h.elim
  | _ :: _, _ :: _, h => ⟨h.1, Dq.swap s _ _ h.2.1, DqK.swap s h.2.2⟩
theorem DqI.swap (s : Swp p kl G G') : ∀ {ks : List (L2.Key × V)} {kvs : List (Int × D)}, DqI K G ks kvs → DqI K G' ks kvs
  | [], [], _ => trivial
  | [], _ :: _, h => h.elim
  | _ :: _, [], h => h.elim
  | _ :: _, _ :: _, h => ⟨h.1, Dq.swap s _ _ h.2.1, DqI.swap s h.2.2⟩
theorem LsOk.swap (s : Swp p kl G G') : ∀ {qs : List Addr} {dss : List (List D)}, (∀ q, q ∈ qs → H' q = H q) → LsOk K G H qs dss → LsOk K G' H' qs dss
  | [], [], _, _ => trivial
  | [], _ :: _, _, h => h.elim
  | _ :: _, [], _, h => h.elim
  | q :: _, _ :: _, k, h => by
    obtain ⟨⟨xs, h1, h2⟩, h3⟩ := h
    exact ⟨⟨xs, by rw [k q List.mem_cons_self]; exact h1, DqA.swap s _ _ h2⟩, LsOk.swap s (fun q' hq => k q' (List.mem_cons_of_mem _ hq)) h3⟩
theorem Real.swap {q : Addr} {w : OV} (s : Swp p kl G G') (k : ∀ a, a ∈ adsOf H q w → H' a = H a) (h : Real K G H q w) : Real K G' H' q w := by
  have k0 := k q adsOf_self
  cases w with
  | dct kvs =>
    obtain ⟨ks, h1, h2⟩ := h
    exact ⟨ks, by rw [k0]; exact h1, h2.swap s⟩
  | dcI kvs =>
    obtain ⟨ks, h1, h2⟩ := h
    exact ⟨ks, by rw [k0]; exact h1, h2.swap s⟩
  | ls2 dss =>
    obtain ⟨qs, h1, h2⟩ := h
    refine ⟨qs, by rw [k0]; exact h1, h2.swap s fun a ha => k a ?_⟩
    unfold adsOf
    rw [h1]
    show a ∈ q :: (qs.map V.ref).filterMap refV
    rw [refV_map]
    exact List.mem_cons_of_mem _ ha
theorem Swp.mi (s : Swp p kl H H') (pO : p ∉ O) : Swp p kl (Dv.mi H O) (Dv.mi H' O) := by
  refine ⟨?_, ?_, fun a c => ?_⟩
  · rcases s.h1 with h | ⟨o, h⟩
    · exact .inl (mi_of pO h)
    · exact .inr ⟨o, mi_of pO h⟩
  · rcases s.h2 with h | ⟨o, h⟩
    · exact .inl (mi_of pO h)
    · exact .inr ⟨o, mi_of pO h⟩
  · unfold Dv.mi
    rw [s.off a c]
theorem Sta.swap (S : Sta K B O I σ H env) (s : Swp p kl H H') (pO : p ∉ O) (hB : ∀ a, a ≠ p → B' a = B a) (hB2 : ∀ o, B' p = some o → H' p = some o) : Sta K B' O I σ H' env := by
  have sm := s.mi pO
  have np : ∀ a, a ∈ O → a ≠ p := fun a ha z => pO (z ▸ ha)
  refine ⟨S.len, fun j d hj => ?_, fun j ds hj => ?_, S.sep, fun a o h => ?_, fun q hq => ?_, S.pin, fun j w hj => ?_, fun q ys hq => ?_⟩
  · obtain ⟨v, k1, k2⟩ := S.fz j d hj
    exact ⟨v, k1, Dq.swap sm _ _ k2⟩
  · obtain ⟨q, ys, k1, k2, k3, k4, k5⟩ := S.ow j ds hj
    exact ⟨q, ys, k1, k2, by rw [s.off q (np q k2)]; exact k3, DqA.swap sm _ _ k4, by rw [hB q (np q k2)]; exact k5⟩
  · by_cases c : a = p
    · subst c
      exact hB2 o h
    · rw [hB a c] at h
      rw [s.off a c]
      exact S.base a o h
  · rw [s.off q (np q hq)]
    exact S.dom q hq
  · obtain ⟨q, b1, b2, b3, b4, b5, b6⟩ := S.nw j w hj
    have npa : ∀ a, a ∈ adsOf H q w → a ≠ p := fun a ha => np a (b4 a ha).1
    have e0 : adsOf H' q w = adsOf H q w := adsOf_eq (s.off q (npa q adsOf_self))
    refine ⟨q, b1, b2.swap sm fun a ha => s.off a (npa a ha), by rw [e0]; exact b3, fun a ha => ?_, fun l ds a hl e ha => ?_, fun l w' r hl hw e a ha ha' => ?_⟩
    · rw [e0] at ha
      exact ⟨(b4 a ha).1, by rw [hB a (npa a ha)]; exact (b4 a ha).2⟩
    · rw [e0] at ha
      exact b5 l ds a hl e ha
    · rw [e0] at ha
      obtain ⟨r', c1, _, _, c4, _, _⟩ := S.nw l w' hw
      rw [e] at c1
      cases c1
      have e1 : adsOf H' r w' = adsOf H r w' := adsOf_eq (s.off r (np r (c4 r adsOf_self).1))
      rw [e1] at ha'
      exact b6 l w' r hl hw e a ha ha'
  · rw [s.off q (np q hq)]
    exact S.nt q ys hq
/-! ### for k in d, d a dict that stays -/
def tLockOr (t : TS) : TS := fun D σ H => tLock t D σ H ∨ t D σ H
theorem ps_lockOr {X : Cx} {st : Stmt} {t : TS} (h : L2.PS X st t) : L2.PS X st (tLockOr t) := by
  refine ⟨fun pins s σ H D I hw => ?_⟩
  rcases hw with hw | hw
  · exact (ps_lock h).run pins s σ H D I hw
  · exact h.run pins s σ H D I hw
theorem forKF_core {h : GF} {g : TG} {b : SFn} {tb : TS} {e9 : Env} {D : Ends} (hg : SndG K g h) (hb : SndS K W tb b) (S : Sta K B O I σ H env) (h1 : σ[i]? = some (some (.ref p))) (hp : H p = some (.frz od (.dT kl))) (pO : p ∉ O) (hk : DqK K G kl kvs)
    (e1 : loopN h b (keysN kvs) env = some (.nx e9)) (fin : ∀ O' σ' H', Sub B I O O' → Sta K B O' I σ' H' e9 → H' p = some (.frz od (.dT kl)) → D.nx σ' H') : tFor (iKeys (tVar i)) g tb D σ H := by
  have hkp : keepH σ env H p = some (.frz od (.dT kl)) := by
    rw [keepH_not (fun z => pO (S.owns_in z))]
    exact hp
  refine ⟨.ref p, h1, p, od, rfl, .inr ⟨kl, hp, ?_⟩⟩
  refine ⟨fun n m σ' H' => ∃ O' env', Sub (keepH σ env H) I O O' ∧ Sta K (keepH σ env H) O' I σ' H' env' ∧ n + m = (keysN kvs).length ∧ loopN h b ((keysN kvs).drop n) env' = some (.nx e9), ⟨(keysN kvs).length, O, env, .refl, S.strong, by omega, by simpa using e1⟩, fun n m σ' H' ⟨O', env2, s2, S2, en, e2⟩ => ?_⟩
  obtain ⟨i1, i2, i3⟩ := iter_keysN (O' := O') (S2.base _ _ hkp) hk S2.nt
  cases m with
  | zero =>
    have ei : n = (keysN kvs).length := by omega
    subst ei
    rw [List.drop_length] at e2
    cases e2
    exact .inl ⟨i2, fin O' σ' H' (s2.weak S.base_keep) (S2.weak S.base_keep) (S2.base _ _ hkp)⟩
  | succ m =>
    have hn : n < (keysN kvs).length := by omega
    rw [List.drop_eq_getElem_cons hn] at e2
    obtain ⟨env3, e3, e4⟩ := bnd e2
    obtain ⟨o2, e5, e6⟩ := bnd e4
    refine .inr ⟨i1 n hn, fun σ3 H3 => ∃ O3 env3, Sub (keepH σ env H) I O O3 ∧ Sta K (keepH σ env H) O3 I σ3 H3 env3 ∧ loopN h b ((keysN kvs).drop (n + 1)) env3 = some (.nx e9), fun σ3 H3 ⟨O3, env3, s3, S3, q3⟩ => ⟨m, by omega, O3, env3, s3, S3, by omega, q3⟩, fun x H3 hy => ?_⟩
    obtain ⟨eH, dx⟩ := i3 n _ x H3 (List.getElem?_eq_getElem hn) hy
    subst eH
    refine hg _ O' I σ' H3 env2 x _ env3 S2 dx e3 _ fun σ4 S4 => ?_
    refine hb _ O' I σ4 H3 env3 o2 S4 e5 _ ?_
    cases o2 with
    | nx e7 => exact fun O5 σ5 H5 s5 S5 => ⟨O5, e7, s2.trans s5, S5, e6⟩
    | ct e7 => exact fun O5 σ5 H5 s5 S5 => ⟨O5, e7, s2.trans s5, S5, e6⟩
    | bk e7 =>
      cases e6
      exact fun O5 σ5 H5 s5 S5 => fin O5 σ5 H5 ((s2.trans s5).weak S.base_keep) (S5.weak S.base_keep) (S5.base _ _ hkp)
    | rt r e7 => cases e6
def fForKF (i : Nat) (h : GF) (b : SFn) : SFn := fun env => match env[i]? with
  | some (.fz (.dct ks ds)) => (loopN h b (keysN (ks.zip ds)) env).bind fun o => match o with
    | .nx e => some (.nx e)
    | _ => none
  | _ => none
theorem ss_forKF {h : GF} {g : TG} {b : SFn} {tb : TS} (hg : SndG K g h) (hb : SndS K W tb b) : SndS K W (tLockOr (tFor (iKeys (tVar i)) g tb)) (fForKF i h b) := by
  intro B O I σ H env o S e D k
  unfold fForKF at e
  split at e
  · rename_i ks ds hi
    obtain ⟨o1, e1, e⟩ := bnd e
    cases o1 with
    | nx e9 =>
      cases e
      obtain ⟨v, s1, d1⟩ := S.fz i _ hi
      cases d1 with
      | @dct p kl _ _ g1 g2 g3 =>
      have hk := DqK.back g2 g3
      have pO : p ∉ O := by
        rcases g1 with g1 | ⟨o, g1⟩ <;> exact (mi_some g1).1
      rcases rd_mi g1 with hd | ⟨od, hd⟩
      · refine .inl ⟨p, .dT kl, hd, trivial, fun od => ?_⟩
        have sw : Swp p kl H (upd H p (.frz od (.dT kl))) := ⟨.inl hd, .inr ⟨od, upd_same⟩, fun a c => upd_ne c⟩
        have S1 : Sta K (upd B p (.frz od (.dT kl))) O I σ (upd H p (.frz od (.dT kl))) env := S.swap sw pO (fun a c => upd_ne c) fun o h => by
          rw [upd_same] at h ⊢
          exact h
        refine forKF_core hg hb S1 s1 upd_same pO hk e1 fun O' σ' H' s S' hp' => ⟨hp', ?_⟩
        have pO' : p ∉ O' := fun z => (s.2 p z).elim pO fun y => by
          rw [upd_same] at y
          cases y
        have sw2 : Swp p kl H' (upd H' p (.dT kl)) := ⟨.inr ⟨od, hp'⟩, .inl upd_same, fun a c => upd_ne c⟩
        have S2 : Sta K B O' I σ' (upd H' p (.dT kl)) e9 := S'.swap sw2 pO' (fun a c => (upd_ne c).symm) fun o h => by
          have := S.base _ _ h
          rw [hd] at this
          rw [upd_same]
          exact this
        refine k O' σ' _ ⟨fun a za y => s.1 a za (y.imp (fun n => ?_) id), fun a za => (s.2 a za).imp id fun y => ?_⟩ S2
        · rw [upd_ne (fun (z : a = p) => pO (z ▸ za))]
          exact n
        · rw [upd_ne (fun (z : a = p) => pO' (z ▸ za))] at y
          exact y
      · exact .inr (forKF_core hg hb S s1 hd pO hk e1 fun O' σ' H' s S' _ => k O' σ' H' s S')
    | bk e9 => cases e
    | ct e9 => cases e
    | rt r e9 => cases e
  · cases e
theorem w_forKF_of {h : GF} {b : SFn} {ks : List (List Int)} {ds : List D} {PO : Out → Prop} (hi : env[i]? = some (.fz (.dct ks ds))) (hl : Ok (loopN h b (keysN (ks.zip ds)) env) fun o => ∃ e, o = .nx e ∧ PO (.nx e)) : Ok (fForKF i h b env) PO := by
  obtain ⟨o, e1, e9, rfl, h9⟩ := hl
  refine ⟨.nx e9, ?_, h9⟩
  unfold fForKF
  rw [hi]
  show (loopN h b (keysN (ks.zip ds)) env).bind _ = _
  rw [e1]
  rfl
/-! ### sorted(d) -/
def gDSortF : GB
  | [.dct ks ds] => (pairK (ks.zip ds)).bind fun ps => if (ks.zip ds).length ≤ 1000000 then some (.new ((srtP ps).map pD)) else none
  | _ => none
theorem cg_dsortF : CallG K Big.rSortDT gDSortF := by
  intro B O I σ H env vs rs dd z S P e ez Q q
  unfold gDSortF at ez
  split at ez
  · rename_i ks0 ds0
    obtain ⟨ps, e1, ez⟩ := bnd ez
    split at ez
    · rename_i hl
      cases ez
      obtain ⟨v, r, rfl, P1, e2⟩ := one_of P e
      obtain ⟨p, ks, rfl, hp, hd⟩ := P1.dict e2
      obtain ⟨g1, g2⟩ := hd.keys e1
      refine ⟨p, ks, ps, rfl, hp, g1, by rw [hd.len]; exact hl, fun N b pm nd pw tp hb => ?_⟩
      have hbO : b ∉ O := not_dom S.dom hb
      refine q _ _ (post_new S hb ?_)
      have prN : ∀ r, r ∈ N → r.2 = [(Big.kv r.2).1, (Big.kv r.2).2] := fun r hr => by
        have m : r.2 ∈ N.map (·.2) := List.mem_map.mpr ⟨r, hr, rfl⟩
        obtain ⟨x, _, ex⟩ := List.mem_map.mp (pm.mem_iff.mp m)
        rw [← ex]
        rfl
      refine dqa_rows (fun r hr => .inl (.inl (mi_of (fun z => S.nt _ _ z (tp r hr)) (tp r hr)))) ?_
      have f4 : N.map (fun p => Big.kv p.2) = srtP ps := by
        refine str_uniq ?_ (str_srtP ps) fun x => ?_
        · refine List.pairwise_map.mpr ?_
          have nd2 : N.Pairwise fun p r => p.2 ≠ r.2 := List.pairwise_map.mp nd
          refine List.Pairwise.imp_of_mem (fun {p r} hp hr h => ?_) (nd2.and pw)
          have := SrtO.lexB_no.mp h.2
          have ne : Big.kv p.2 ≠ Big.kv r.2 := fun z => h.1 (by rw [prN p hp, prN r hr, z])
          refine Classical.byContradiction fun y => this ?_
          exact ltP2_tri ne y
        · rw [mem_srtP, List.mem_map]
          constructor
          · rintro ⟨p, hp, rfl⟩
            have m : p.2 ∈ N.map (·.2) := List.mem_map.mpr ⟨p, hp, rfl⟩
            obtain ⟨r, hr, e⟩ := List.mem_map.mp (pm.mem_iff.mp m)
            rw [← e]
            exact hr
          · intro hx
            have m : [x.1, x.2] ∈ ps.map fun p => [p.1, p.2] := List.mem_map.mpr ⟨x, hx, rfl⟩
            obtain ⟨r, hr, e⟩ := List.mem_map.mp (pm.mem_iff.mpr m)
            exact ⟨r, hr, by rw [e]; rfl⟩
      rw [← f4, List.map_map]
      exact List.map_congr_left prN
    · cases ez
  · cases ez
end
/-! ### == of texts -/
def gEqS : G2
  | .str a, .str b => some (.val (.bl (a == b)))
  | _, _ => none
theorem op2_eqS {K : PySem.W.Frag} : Op2 K rEq gEqS := by
  intro B O I σ H env x y ra rb d e z P1 P2 e1 e2 ez Q q
  unfold gEqS at ez
  split at ez
  · cases ez
    have d1 := P1.read e1
    have d2 := P2.read e2
    cases d1
    cases d2
    refine ⟨rfl, ?_⟩
    rw [dec_str]
    exact q _ H ⟨P1.sta, .bl _⟩
  · cases ez
theorem gEqS_self (x : Str) : gEqS (.str x) (.str x) = some (.val (.bl true)) := by
  show some (RV.val (D.bl (x == x))) = _
  rw [beq_self_eq_true]
end Dv

/-! texts: their length, their signs gone through, split, partition, join, int(text); a <= b <= c of whole numbers -/
namespace Dv
open PySem L2
section
variable {K : PySem.W.Frag} {B : Hp} {O : List Addr} {I : List (Nat × Addr)} {σ : L2.St} {H H' : Hp} {env env' e : Env} {W : WN} {ta tb tc to te : TE} {fa fb fc fo fe : EF} {P : RV × Env → Prop} {PI : List D × Env → Prop}
/-! ### a <= b <= c -/
def chC (fc : EF) (j : Int) (e : Env) : Option (RV × Env) := (fc e).bind fun c => match c.1 with
  | .val (.int k) => some (.val (.bl (decide (j ≤ k))), c.2)
  | _ => none
def chB (fb fc : EF) (i : Int) (e : Env) : Option (RV × Env) := (fb e).bind fun b => match b.1 with
  | .val (.int j) => if i ≤ j then chC fc j b.2 else some (.val (.bl false), b.2)
  | _ => none
def fChn (fa fb fc : EF) : EF := fun env => (fa env).bind fun a => match a.1 with
  | .val (.int i) => chB fb fc i a.2
  | _ => none
theorem snd_chn (h1 : Snd K ta fa) (h2 : Snd K tb fb) (h3 : Snd K tc fc) : Snd K (tChain (rI0 fun i j => .bl (decide (i ≤ j))) (rI0 fun i j => .bl (decide (i ≤ j))) ta tb tc) (fChn fa fb fc) := by
  intro B O I σ H env rv env' S e Q q
  obtain ⟨⟨r1, env1⟩, e1, e⟩ := bnd e
  dsimp only at e
  split at e
  · rename_i i
    obtain ⟨⟨r2, env2⟩, e2, e⟩ := bnd e
    dsimp only at e
    split at e
    · rename_i j
      refine h1 B O I σ H env _ env1 S e1 _ fun v H1 P1 => ?_
      obtain ⟨S1, d1⟩ := P1
      cases d1
      refine h2 B O I σ H1 env1 _ env2 S1 e2 _ fun w H2 P2 => ?_
      obtain ⟨S2, d2⟩ := P2
      cases d2
      refine ⟨i, j, rfl, rfl, _, rfl, ?_⟩
      by_cases c : i ≤ j
      · rw [if_pos c] at e
        rw [decide_eq_true c, if_pos rfl]
        obtain ⟨⟨r3, env3⟩, e3, e⟩ := bnd e
        dsimp only at e
        split at e
        · rename_i k
          cases e
          refine h3 B O I σ H2 env2 _ _ S2 e3 _ fun u H3 P3 => ?_
          obtain ⟨S3, d3⟩ := P3
          cases d3
          exact ⟨j, k, rfl, rfl, q _ H3 ⟨S3, .bl _⟩⟩
        · cases e
      · rw [if_neg c] at e
        cases e
        rw [decide_eq_false c, if_neg Bool.false_ne_true]
        exact q _ H2 ⟨S2, .bl _⟩
    · cases e
  · cases e
def KCh3 (j : Int) (P : RV × Env → Prop) : RV × Env → Prop := fun c => match c.1 with
  | .val (.int k) => P (.val (.bl (decide (j ≤ k))), c.2)
  | _ => False
def KCh2 (i : Int) (fc : EF) (P : RV × Env → Prop) : RV × Env → Prop := fun b => match b.1 with
  | .val (.int j) => (i ≤ j → Ok (fc b.2) (KCh3 j P)) ∧ (¬ i ≤ j → P (.val (.bl false), b.2))
  | _ => False
def KCh1 (fb fc : EF) (P : RV × Env → Prop) : RV × Env → Prop := fun a => match a.1 with
  | .val (.int i) => Ok (fb a.2) (KCh2 i fc P)
  | _ => False
theorem k_ch3 {j k : Int} : KCh3 j P (.val (.int k), e) ↔ P (.val (.bl (decide (j ≤ k))), e) := Iff.rfl
theorem k_ch2 {i j : Int} : KCh2 i fc P (.val (.int j), e) ↔ (i ≤ j → Ok (fc e) (KCh3 j P)) ∧ (¬ i ≤ j → P (.val (.bl false), e)) := Iff.rfl
theorem k_ch1 {i : Int} : KCh1 fb fc P (.val (.int i), e) ↔ Ok (fb e) (KCh2 i fc P) := Iff.rfl
theorem ok_matchI {α : Type} {r : RV} {f : Int → Option α} {Z : α → Prop} : Ok (match r with | .val (.int k) => f k | _ => none) Z ↔ (match r with | .val (.int k) => Ok (f k) Z | _ => False) := by
  cases r with
  | val d => cases d <;> first | exact Iff.rfl | exact ok_none
  | slot i => exact ok_none
  | new ds => exact ok_none
  | ex n => exact ok_none
  | tw n => exact ok_none
theorem w_chn : Ok (fChn fa fb fc env) P ↔ Ok (fa env) (KCh1 fb fc P) := by
  refine ok_bind_iff fun ⟨r, e⟩ => ?_
  refine ok_matchI.trans ?_
  cases r with
  | val d =>
    cases d <;> first | exact Iff.rfl | skip
    rename_i i
    refine ok_bind_iff fun ⟨r, e⟩ => ?_
    refine ok_matchI.trans ?_
    cases r with
    | val d =>
      cases d <;> first | exact Iff.rfl | skip
      rename_i j
      show Ok (if i ≤ j then chC fc j e else some (.val (.bl false), e)) P ↔ _
      rw [ok_ite, ok_some]
      refine and_congr (imp_congr Iff.rfl ?_) Iff.rfl
      refine ok_bind_iff fun ⟨r, e⟩ => ?_
      refine ok_matchI.trans ?_
      cases r with
      | val d => cases d <;> first | exact Iff.rfl | exact ok_some (P := P)
      | _ => exact Iff.rfl
    | _ => exact Iff.rfl
  | _ => exact Iff.rfl
/-! ### a method of a text with one argument -/
def fS1 (g : G2) (fo fe : EF) : EF := fun env => (fo env).bind fun a => match a.1 with
  | .val (.str z) => (fe a.2).bind fun b => (deref b.2 b.1).bind fun y => (g (.str z) y).bind fun w => some (w, b.2)
  | _ => none
theorem snd_s1 {r : V → List V → Hp → VK → Prop} {g : G2} (h1 : Snd K to fo) (h2 : Snd K te fe) (ho : Op2 K (fun x y H Q => r x [y] H Q) g) : Snd K (tM1 r to te) (fS1 g fo fe) := by
  intro B O I σ H env rv env' S e Q q
  obtain ⟨⟨r1, env1⟩, e1, e⟩ := bnd e
  dsimp only at e
  split at e
  · rename_i z
    obtain ⟨⟨r2, env2⟩, e2, e⟩ := bnd e
    obtain ⟨y, ey, e⟩ := bnd e
    obtain ⟨w, ew, e⟩ := bnd e
    cases e
    refine h1 B O I σ H env _ env1 S e1 _ fun v H1 P1 => ?_
    obtain ⟨S1, d1⟩ := P1
    cases d1
    refine ⟨⟨z, rfl⟩, h2 B O I σ H1 env1 r2 _ S1 e2 _ fun u H2 P2 => ?_⟩
    exact ho B O I σ H2 _ (.str z) u (.val (.str z)) r2 (.str z) y _ ⟨P2.sta, .str z⟩ P2 rfl ey ew Q q
  · cases e
def DSt (g : G2) (z : Str) (y : Option D) (e : Env) (P : RV × Env → Prop) : Prop := match y with
  | some y => Ok (g (.str z) y) (KZ e P)
  | _ => False
def KS2 (g : G2) (z : Str) (P : RV × Env → Prop) : RV × Env → Prop := fun b => DSt g z (deref b.2 b.1) b.2 P
def KS1 (g : G2) (fe : EF) (P : RV × Env → Prop) : RV × Env → Prop := fun a => match a.1 with
  | .val (.str z) => Ok (fe a.2) (KS2 g z P)
  | _ => False
theorem d_s1 {g : G2} {z : Str} {y : D} : DSt g z (some y) e P ↔ Ok (g (.str z) y) (KZ e P) := Iff.rfl
theorem k_s2 {g : G2} {z : Str} {r : RV} : KS2 g z P (r, e) ↔ DSt g z (deref e r) e P := Iff.rfl
theorem k_s1 {g : G2} {z : Str} : KS1 g fe P (.val (.str z), e) ↔ Ok (fe e) (KS2 g z P) := Iff.rfl
theorem w_s1 {g : G2} : Ok (fS1 g fo fe env) P ↔ Ok (fo env) (KS1 g fe P) := by
  refine ok_bind_iff fun ⟨r, e⟩ => ?_
  cases r with
  | val d =>
    cases d <;> first | exact ok_none (P := P) | skip
    rename_i z
    refine ok_bind_iff fun ⟨r, e⟩ => ?_
    show Ok (Option.bind (deref e r) _) P ↔ DSt g z (deref e r) e P
    cases hd : deref e r with
    | none => exact ok_none (P := P)
    | some y => exact ok_bind_iff (P := P) fun w => ok_some (P := P)
  | _ => exact ok_none (P := P)
/-! ### split, partition, join -/
def strsOf : List D → Option (List Str)
  | [] => some []
  | .str x :: r => (strsOf r).bind fun xs => some (x :: xs)
  | _ => none
theorem strsOf_eq : ∀ {ds : List D} {xs : List Str}, strsOf ds = some xs → ds = xs.map D.str
  | [], _, h => by cases h; rfl
  | d :: ds, xs, h => by
    cases d with
    | str b =>
      obtain ⟨x, e1, e2⟩ := bnd h
      cases e2
      rw [strsOf_eq e1]
      rfl
    | _ => cases h
theorem strsOf_map : ∀ xs : List Str, strsOf (xs.map D.str) = some xs
  | [] => rfl
  | x :: xs => by
    show (strsOf (xs.map D.str)).bind _ = _
    rw [strsOf_map xs]
    rfl
theorem DqA.strs {G : Hp} : ∀ xs : List Str, DqA K G (xs.map V.str) (xs.map D.str)
  | [] => .nil
  | x :: xs => .cons (.str x) (DqA.strs xs)
theorem DqA.isStrs {G : Hp} : ∀ {vs : List V} {xs : List Str}, DqA K G vs (xs.map D.str) → vs = xs.map V.str
  | [], [], _ => rfl
  | [], _ :: _, h => by cases h
  | _ :: _, [], h => by cases h
  | v :: vs, x :: xs, h => by
    cases h with
    | cons h1 h2 =>
      cases h1
      rw [DqA.isStrs h2]
      rfl
def gSplit : G2
  | .str a, .str b => if b.length ≠ 0 ∧ a.length + 2 ≤ 10000000 then some (.new ((Txt.split a b).map D.str)) else none
  | _, _ => none
theorem op2_split : Op2 K (fun x y H Q => ∃ a b, x = .str a ∧ [y] = [V.str b] ∧ (b.length == 0) = false ∧ a.length + 2 ≤ sizeLine ∧ rNewStrs (Txt.split a b) H Q) gSplit := by
  intro B O I σ H env x y ra rb d e z P1 P2 e1 e2 ez Q q
  unfold gSplit at ez
  split at ez
  · split at ez
    · rename_i hc
      cases ez
      have d1 := P1.read e1
      have d2 := P2.read e2
      cases d1
      cases d2
      exact ⟨_, _, rfl, rfl, by simpa using hc.1, line_of hc.2, fun p hp => q _ _ (post_new P1.sta hp (DqA.strs _))⟩
    · cases ez
  · cases ez
def gPart : G2
  | .str a, .str b => if b.length ≠ 0 ∧ a.length ≤ 10000000 then some (.val (.tup [.str (Txt.partition a b).1, .str (Txt.partition a b).2.1, .str (Txt.partition a b).2.2])) else none
  | _, _ => none
theorem op2_part : Op2 K (fun x y H Q => ∃ a b, x = .str a ∧ [y] = [V.str b] ∧ (b.length == 0) = false ∧ a.length ≤ sizeLine ∧ ∀ p, H p = none → Q (.ref p) (upd H p (.tup [.str (Txt.partition a b).1, .str (Txt.partition a b).2.1, .str (Txt.partition a b).2.2]))) gPart := by
  intro B O I σ H env x y ra rb d e z P1 P2 e1 e2 ez Q q
  unfold gPart at ez
  split at ez
  · split at ez
    · rename_i hc
      cases ez
      have d1 := P1.read e1
      have d2 := P2.read e2
      cases d1
      cases d2
      exact ⟨_, _, rfl, rfl, by simpa using hc.1, line_of hc.2, fun p hp => q _ _ (post_tup P1.sta hp (.cons (.str _) (.cons (.str _) (.cons (.str _) .nil))))⟩
    · cases ez
  · cases ez
def gJoin : G2
  | .str a, .lst ds => (strsOf ds).bind fun ys => if (ys.map (·.length)).sum + ys.length * a.length ≤ 10000000 then some (.val (.str (Txt.join a ys))) else none
  | _, _ => none
theorem op2_join : Op2 K (fun x y H Q => ∃ a p, ∃ ys : List Str, x = .str a ∧ [y] = [V.ref p] ∧ (SqL K H p (ys.map V.str) ∨ SqT K H p (ys.map V.str)) ∧ (ys.map (·.length)).sum + ys.length * a.length ≤ 16777216 ∧ Q (.str (Txt.join a ys)) H) gJoin := by
  intro B O I σ H env x y ra rb d e z P1 P2 e1 e2 ez Q q
  unfold gJoin at ez
  split at ez
  · obtain ⟨ys, e3, ez⟩ := bnd ez
    split at ez
    · rename_i hc
      cases ez
      have d1 := P1.read e1
      cases d1
      obtain ⟨p1, xs, rfl, h1, k1⟩ := P2.items e2
      rw [strsOf_eq e3] at k1
      rw [k1.isStrs] at h1
      exact ⟨_, p1, ys, rfl, rfl, .inl (.inl (.inl h1)), by omega, q _ H ⟨P1.sta, .str _⟩⟩
    · cases ez
  · cases ez
/-! ### len, int of a text; a sign in a text -/
def gLenS : GB
  | [.str z] => if z.length ≤ 10000000 then some (.val (.int z.length)) else none
  | _ => none
theorem cg_lenS : CallG K (fun xs H Q => ∃ z, xs = [.str z] ∧ z.length ≤ sizeLine ∧ Q (.int z.length) H) gLenS := by
  intro B O I σ H env vs rs ds z S P e ez Q q
  unfold gLenS at ez
  split at ez
  · split at ez
    · rename_i hc
      cases ez
      obtain ⟨v, r, rfl, P1, e1⟩ := one_of P e
      have d1 := P1.read e1
      cases d1
      exact ⟨_, rfl, line_of hc, q _ H ⟨S, .int _⟩⟩
    · cases ez
  · cases ez
def gIntS : GB
  | [.str a] => if a.length ≤ 640 then (PySem.intText? a).bind fun n => some (.val (.int n)) else none
  | _ => none
theorem cg_intS : CallG K (fun xs H Q => ∃ a n, xs = [.str a] ∧ PySem.intText? a = some n ∧ a.length ≤ 640 ∧ Q (.int n) H) gIntS := by
  intro B O I σ H env vs rs ds z S P e ez Q q
  unfold gIntS at ez
  split at ez
  · split at ez
    · rename_i hc
      obtain ⟨n, hn, ez⟩ := bnd ez
      cases ez
      obtain ⟨v, r, rfl, P1, e1⟩ := one_of P e
      have d1 := P1.read e1
      cases d1
      exact ⟨_, n, rfl, hn, hc, q _ H ⟨S, .int _⟩⟩
    · cases ez
  · cases ez
def gInSig (b : Bool) : G2
  | .str x, .str z => match x.cps.toList with
    | [c] => some (.val (.bl (b ^^ decide (c ∈ z.cps.toList))))
    | _ => none
  | _, _ => none
theorem sig_of {x : Str} {c : Nat} (h : x.cps.toList = [c]) : x = ⟨#[c]⟩ := Str.ext' (Array.toList_inj.mp h)
theorem op2_inSig : Op2 K (fun x y H Q => ∃ (c : Nat) (z : Str), x = .str ⟨#[c]⟩ ∧ y = .str z ∧ Q (.bl (decide (c ∈ z.cps.toList))) H) (gInSig false) := by
  intro B O I σ H env x y ra rb d e z P1 P2 e1 e2 ez Q q
  unfold gInSig at ez
  split at ez
  · split at ez
    · rename_i c hc
      cases ez
      have d1 := P1.read e1
      have d2 := P2.read e2
      cases d1
      cases d2
      exact ⟨c, _, by rw [sig_of hc], rfl, q _ H ⟨P1.sta, by rw [Bool.false_xor]; exact .bl _⟩⟩
    · cases ez
  · cases ez
theorem op2_notInSig : Op2 K (fun x y H Q => ∃ (c : Nat) (z : Str), x = .str ⟨#[c]⟩ ∧ y = .str z ∧ Q (.bl (!decide (c ∈ z.cps.toList))) H) (gInSig true) := by
  intro B O I σ H env x y ra rb d e z P1 P2 e1 e2 ez Q q
  unfold gInSig at ez
  split at ez
  · split at ez
    · rename_i c hc
      cases ez
      have d1 := P1.read e1
      have d2 := P2.read e2
      cases d1
      cases d2
      exact ⟨c, _, by rw [sig_of hc], rfl, q _ H ⟨P1.sta, by rw [Bool.true_xor]; exact .bl _⟩⟩
    · cases ez
  · cases ez
theorem gInSigF {c : Nat} {z : Str} : gInSig false (.str ⟨#[c]⟩) (.str z) = some (.val (.bl (decide (c ∈ z.cps.toList)))) := by
  show some (RV.val (D.bl (false ^^ decide (c ∈ z.cps.toList)))) = _
  rw [Bool.false_xor]
theorem gInSigT {c : Nat} {z : Str} : gInSig true (.str ⟨#[c]⟩) (.str z) = some (.val (.bl (!decide (c ∈ z.cps.toList)))) := by
  show some (RV.val (D.bl (true ^^ decide (c ∈ z.cps.toList)))) = _
  rw [Bool.true_xor]
/-! ### a text gone through -/
def sigs (z : Str) : List D := z.cps.toList.map fun c => D.str ⟨#[c]⟩
def fIterS (f : EF) : IF := fun env => (f env).bind fun a => match a.1 with
  | .val (.str z) => some (sigs z, a.2)
  | _ => none
theorem iter_str {z : Str} {G : Hp} : IterOk K G (Its z) (sigs z) := by
  intro H O _ _
  have hl : (sigs z).length = z.cps.size := by simp [sigs]
  refine ⟨fun i h => by rw [hl] at h; exact h, by rw [hl]; exact Nat.le_refl _, fun i d x H' hi hy => ?_⟩
  obtain ⟨rfl, c, hc, rfl⟩ := hy
  refine ⟨Same.refl _, ?_⟩
  unfold sigs at hi
  rw [List.getElem?_map] at hi
  obtain ⟨k, h1, h2⟩ := Option.map_eq_some_iff.mp hi
  rw [Array.getElem?_toList] at h1
  rw [hc] at h1
  cases h1
  rw [← h2]
  exact .str _
theorem si_str {t : TE} {f : EF} (h : Snd K t f) : SndI K (iStr t) (fIterS f) := by
  intro B O I σ H env items env' S e R q
  obtain ⟨⟨r1, env1⟩, e1, e⟩ := bnd e
  dsimp only at e
  split at e
  · cases e
    refine h B O I σ H env _ _ S e1 _ fun v H1 P1 => ?_
    obtain ⟨S1, d1⟩ := P1
    cases d1
    exact ⟨_, rfl, q _ H1 S1 iter_str⟩
  · cases e
def KItS (PI : List D × Env → Prop) : RV × Env → Prop := fun a => match a.1 with
  | .val (.str z) => PI (sigs z, a.2)
  | _ => False
theorem k_itS {z : Str} : KItS PI (.val (.str z), e) ↔ PI (sigs z, e) := Iff.rfl
theorem w_iterS : Ok (fIterS fa env) PI ↔ Ok (fa env) (KItS PI) := by
  refine ok_bind_iff fun ⟨r, e⟩ => ?_
  cases r with
  | val d => cases d <;> first | exact ok_none (P := PI) | exact ok_some (P := PI)
  | _ => exact ok_none (P := PI)
end
/-! ### == of texts -/
theorem beq_txt {x y : Str} : (x == y) = decide (x = y) := by
  by_cases c : x = y
  · subst c
    rw [decide_eq_true rfl]
    exact beq_self_eq_true x
  · rw [decide_eq_false c]
    exact beq_eq_false_iff_ne.mpr c
theorem gEqS_txt {x y : Str} : gEqS (.str x) (.str y) = some (.val (.bl (decide (x = y)))) := by
  show some (RV.val (D.bl (x == y))) = _
  rw [beq_txt]
theorem gNeS_txt {x y : Str} : gNeS (.str x) (.str y) = some (.val (.bl (!decide (x = y)))) := by
  show some (RV.val (D.bl (!(x == y)))) = _
  rw [beq_txt]
end Dv

/-! what is never come to; a class whose making is refused -/
namespace Dv
open PySem L2 PyProof.Rows
def tNeverS : TS := fun _ _ _ => False
def fNeverS : SFn := fun _ => none
theorem pss_neverS {X : Cx} {sts : List Stmt} : PSs X sts tNeverS := ⟨fun _ _ _ _ _ _ h => h.elim⟩
theorem ss_neverS {K : PySem.W.Frag} {W : WN} : SndS K W tNeverS fNeverS := fun _ _ _ _ _ _ _ _ e => nomatch e
/-! C(..): a new instance, then an __init__ that may refuse -/
def tMakeS (C : Addr) (sp : Sp) (E : L2.St → XK) (t : TA) : TE := fun σ H Q => t σ H fun vs H1 => ∀ x dx, H1 x = none → H1 dx = none → dx ≠ x →
  sp (.ref x :: vs) (upd (upd H1 dx (.own x)) x (.ins C dx [])) (fun v H2 => v = .non ∧ Q (.ref x) H2) (E σ)
section
variable {X : Cx} {CX : CXT} {k : Nat} {f C : Addr} {fd : FuncData} {ps : List Str} {sp : Sp} {E : L2.St → XK} {x m : Str} {p pos apos : Pos} {e o : Expr} {es : List Expr} {ta : TE} {t : TA}
theorem run_makeS {pins : List (Addr × Obj)} {σ : L2.St} {H : Hp} {s : Shared} {Q : VK} {us : List Value} {vs : List V} (M : Mk X.K C f) (F : FnOk X.prog X.w X.K X.mg X.base CX k f fd ps sp) (hr : Room (k + 1) X.A) (hb : Binds X.K fd ps [])
    (hx : PassesAt CX X σ (E σ)) (I : Inv X pins σ H s) (r : Vals vs us)
    (h : ∀ x dx, H x = none → H dx = none → dx ≠ x → sp (.ref x :: vs) (upd (upd H dx (.own x)) x (.ins C dx [])) (fun v H2 => v = .non ∧ Q (.ref x) H2) (E σ)) :
    wpAny (model X.prog X.w) X.A (call (.ref C) us) (EP X pins σ Q) X.xe s := by
  have hq := h (s.heap.objs.size + 1) s.heap.objs.size (I.hok.fresh (Nat.le_succ _)) (I.hok.fresh (Nat.le_refl _)) (Nat.ne_of_lt (Nat.lt_succ_self _))
  have I2 := Inv.made (C := C) I
  have r2 : Vals (V.ref (s.heap.objs.size + 1) :: vs) (Value.ref (s.heap.objs.size + 1) :: us) := .cons rfl r
  have hl : ((Value.ref (s.heap.objs.size + 1) :: us) ++ []).length = ps.length := by
    have e := r2.length
    rw [F.len _ _ _ _ hq] at e
    rw [List.append_nil]
    exact e.symm
  have b := hb _ (Value.ref (s.heap.objs.size + 1) :: us) I2.kIn hl
  rw [List.append_nil] at b
  refine wpAny_call (make_map (f := f) I.kIn M.makes M.init (beq_iff_eq.mp M.fn) (codeAny_mono (F.run _ X.stack _ _ ⟨Value.ref (s.heap.objs.size + 1) :: us, []⟩ (Value.ref (s.heap.objs.size + 1) :: us) _ _ (E σ) (hr.make C us [])
    (I2.env0.make C us []) b r2 hq) fun r s' hq' => ?_))
  cases r with
  | error e => exact hx pins _ _ e s' I2 hq'
  | ok fl =>
    cases fl with
    | ret u =>
      obtain ⟨v, H', I3, rv, ev, q3⟩ := I2.after hq'
      subst ev
      exact ⟨rv, ⟨V.ref (s.heap.objs.size + 1), H', I3, rfl, q3⟩⟩
    | next => exact False.elim hq'
    | brk => exact False.elim hq'
    | cont => exact False.elim hq'
theorem pe_makeS (M : Mk X.K C f) (F : FnOk X.prog X.w X.K X.mg X.base CX k f fd ps sp) (hr : Room (k + 1) X.A) (hg : Gl X x) (hm : X.mg x = some (.ref C)) (hb : Binds X.K fd ps []) (hx : ∀ σ, PassesAt CX X σ (E σ))
    (ha : PA X (e :: es) t) (hdb : (x == ("__debug__" : Str)) = false := by decide) (he : starEach (e :: es) X.env = (false, eval e X.env) :: starEach es X.env := by rfl) (hpl : (backTo pos (starEach es X.env)).any (·.1) = false := by rfl) :
    PE X (.Call (.Name x p) (e :: es) [] pos) (tMakeS C sp E t) := by
  refine ⟨fun pins s σ H Q I h => ?_⟩
  refine wpAny_Call_Name_kw (ld_glob I hg hm ?_ hdb)
  refine PySem.W.callWith_K (h₀ := X.base) I.ok.mod.kin M.kp (thn (ha.run pos pins s σ H _ I h) fun us s1 ⟨vs, H1, I1, r, q⟩ => ⟨I1.kIn, ?_⟩) he hpl
  exact run_makeS M F hr hb (hx σ) I1 r q
end
section
variable {K : PySem.W.Frag} {B : Hp} {O : List Addr} {I : List (Nat × Addr)} {σ : L2.St} {H H' : Hp} {env env' e : Env} {v : V} {t : TA} {fa : AF} {P : RV × Env → Prop} {cl : Nat → Addr} {rs : List RV}
open Classical in
/-- it is refused by n, whatever the new thing's place -/
noncomputable def fMakeX (n : Nat) (io : List Bool) (g : FX) (fa : AF) : EF := fun env => (fa env).bind fun a => (argD a.2 io a.1).bind fun x =>
  if x.2.1.isEmpty && io.all (fun b => !b) then (if ∀ p : Addr, g (.adr p :: x.1) = some (.error n) then some (.ex n, a.2) else none) else none
theorem ArgsOk.mono {O : List Addr} {H H' : Hp} (e : Same H H') : ∀ {bs : List Bool} {vs : List V} {ds : List D}, noIo bs → ArgsOk K O H bs vs ds → ArgsOk K O H' bs vs ds
  | _, _, _, _, .nil => .nil
  | _, _, _, n, .val h1 h2 => .val (Dq.mono (mi_mono e) _ _ h1) (ArgsOk.mono e (by simpa [noIo] using n) h2)
  | _, _, _, n, .io _ _ _ _ => by cases n
theorem sndX_makeX {C : Addr} {n : Nat} {io : List Bool} {g : FX} {WX : L2.WX} (h : SndA K t fa) : SndX K (wn cl WX) (tMakeS C (spX K cl (false :: io) g) (WE WX) t) (fMakeX n io g fa) := by
  intro B O I σ H env rv env' S e Q q qx
  obtain ⟨⟨rs, env1⟩, e1, e⟩ := bnd e
  obtain ⟨⟨ds, ios, bor⟩, e2, e⟩ := bnd e
  dsimp only at e2 e
  split at e
  · rename_i hc
    split at e
    · rename_i hg
      cases e
      rw [Bool.and_eq_true] at hc
      have hios : ios = [] := List.isEmpty_iff.mp hc.1
      subst hios
      have hio : noIo io := hc.2
      refine h B O I σ H env rs _ S e1 _ fun vs H1 S1 P1 => ?_
      have hbo := lent_own (bs := io) e2
      obtain ⟨g1, g2, g3⟩ := args_ok S1 (bor := bor) (k := 0) P1 e2 (fun _ y => y) (fun _ y => nomatch y) hbo
      intro x dx hx hdx hne
      have hs : Same H1 (upd (upd H1 dx (.own x)) x (.ins C dx [])) := fun a o z => by
        rw [upd_ne (ne_of_none z hx), upd_ne (ne_of_none z hdx)]
        exact z
      refine ⟨_, .adr x :: ds, .error n, by simpa [noIo] using hio, .val (.adr x) (g1.mono hs hio), fun p hp => ?_, fun p xs hp => ?_, hg x, ⟨(fun d fr outs er => by cases er), fun m em H' fr => ?_⟩⟩
      · obtain ⟨o, z⟩ := S1.dom p (List.mem_filter.mp hp).1
        exact ⟨o, hs _ _ z⟩
      · exact S1.ntS (List.mem_filter.mp hp).1 (fun o z => hs _ _ z) xs
      · cases em
        exact qx n rfl H' (S1.grow fun a o z => fr a o (hs a o z))
    · cases e
  · cases e
theorem w_makeX {n : Nat} {io : List Bool} {g : FX} {ds : List D} {bor : List Nat} (h1 : Ok (fa env) fun a => argD a.2 io a.1 = some (ds, [], bor) ∧ P (.ex n, a.2)) (hio : io.all (fun b => !b) = true) (hg : ∀ p : Addr, g (.adr p :: ds) = some (.error n)) : Ok (fMakeX n io g fa env) P := by
  obtain ⟨a, e1, e2, p⟩ := h1
  refine ⟨_, ?_, p⟩
  unfold fMakeX
  rw [e1, Option.bind_some, e2, Option.bind_some]
  dsimp only
  rw [hio, if_pos (show (([] : List Nat).isEmpty && true) = true from rfl), if_pos hg]
end
/-! ### f(new list, i, j) where f changes the list -/
def fCallN2 (g : FF) (fe : EF) (i j : Int) : EF := fun env => (fe env).bind fun a => match a.1 with
  | .new ds => (g [.lst ds, .int i, .int j]).bind fun r => (resR r).bind fun z => some (z, a.2)
  | _ => none
theorem snd_callN2 {K : PySem.W.Frag} {te : TE} {fe : EF} {g : FF} {E : XK} {i j : Int} (h : Snd K te fe) : Snd K (tCall (spD K [true, false, false] g) [] E (tCons te (tCons (tC (.int i)) (tCons (tC (.int j)) tNil)))) (fCallN2 g fe i j) := by
  intro B O I σ H env rv env' S e Q q
  obtain ⟨⟨r1, env1⟩, e1, e⟩ := bnd e
  cases r1 with
  | new ds =>
    obtain ⟨⟨r, fr, outs⟩, e2, e⟩ := bnd e
    obtain ⟨z, e3, e⟩ := bnd e
    cases e
    refine h B O I σ H env _ _ S e1 _ fun v H1 P1 => ?_
    obtain ⟨p, xs, rfl, h1, h2, h3, S1, h4⟩ := P1
    have dq : DqA K (mi H1 (p :: O)) xs ds := DqA.mono (fun a o ha => by
      obtain ⟨y1, y2⟩ := mi_some ha
      obtain ⟨y3, y4⟩ := mi_some y2
      exact mi_of (fun z => by
        rcases List.mem_cons.mp z with w | w
        · exact y3 (List.mem_singleton.mpr w)
        · exact y1 w) y4) _ _ h4
    show spD K [true, false, false] g [V.ref p, V.int i, V.int j] H1 Q E
    refine ⟨p :: O, [.lst ds, .int i, .int j], r, fr, outs, .io List.mem_cons_self h1 dq (.val (.int i) (.val (.int j) .nil)), ?_, fun a ha => ?_, fun a ys ha => ?_, e2, fun v H2 R => ?_⟩
    · show [p].Nodup
      simp
    · rcases List.mem_cons.mp ha with w | w
      · rw [w]
        exact ⟨_, h1⟩
      · obtain ⟨o, ho⟩ := S1.dom a w
        exact ⟨o, (mi_some ho).2⟩
    · rcases List.mem_cons.mp ha with w | w
      · rw [w, h1]
        exact fun z => by cases z
      · exact S1.ntS w (fun o ho => (mi_some ho).2) ys
    · have fr1 : ∀ a o, mi H1 [p] a = some o → H2 a = some o := fun a o ha => by
        obtain ⟨y1, y2⟩ := mi_some ha
        exact R.frame a o y2 y1
      cases fr with
      | false =>
        obtain ⟨o1, o2⟩ := R.old rfl
        have ez : rv = RV.val r := by
          unfold resR at e3
          cases r <;> cases e3 <;> rfl
        subst ez
        exact q _ _ ⟨S1.grow fr1, Dq.mono (mi_sub fun a ha => List.mem_cons_of_mem _ ha) _ _ o2⟩
      | true =>
        by_cases tp : isTp r = true
        · obtain ⟨b, qs, dss, rfl, rfl, hb2, hnd, hfr, hls, o1⟩ := R.tw rfl tp
          have ez := resR_tw e3
          subst ez
          have hq1 : ∀ a, a ∈ qs → mi H1 [p] a = none := fun a ha => by
            unfold mi
            split
            · rfl
            · exact hfr a ha
          refine q _ _ ⟨b, qs, rfl, hb2, hnd, fun a ha => ⟨S1.base.free (hq1 a ha), not_dom S1.dom (hq1 a ha)⟩, S1.grow fun a o ha => mi_of (fun w => ?_) (fr1 a o ha), LsOk.mono (mi_sub fun a ha => ?_) (fun _ _ => rfl) hls⟩
          · rw [hq1 a w] at ha
            cases ha
          · rcases List.mem_append.mp ha with w | w
            · exact List.mem_append_left _ w
            · exact List.mem_append_right _ (List.mem_cons_of_mem _ w)
        obtain ⟨b, ys, rs, rfl, rfl, hb, hb2, hy, o1⟩ := R.new rfl (Bool.eq_false_iff.mpr tp)
        cases e3
        have hb1 : mi H1 [p] b = none := by
          unfold mi
          split
          · rfl
          · exact hb
        refine q _ _ ⟨b, ys, rfl, hb2, S1.base.free hb1, not_dom S1.dom hb1, S1.grow fun a o ha => mi_of (fun w => ?_) (fr1 a o ha), DqA.mono (mi_sub fun a ha => List.mem_cons_of_mem _ ha) _ _ hy⟩
        rw [List.mem_singleton] at w
        subst w
        rw [hb1] at ha
        cases ha
  | _ => cases e
section
variable {env e : Env} {P : RV × Env → Prop} {f : EF}
def KCallN2 (g : FF) (i j : Int) (P : RV × Env → Prop) : RV × Env → Prop := fun a => match a.1 with
  | .new ds => Ok (g [.lst ds, .int i, .int j]) (KBackN a.2 P)
  | _ => False
theorem k_callN2 {g : FF} {i j : Int} {ds : List D} : KCallN2 g i j P (.new ds, e) ↔ Ok (g [.lst ds, .int i, .int j]) (KBackN e P) := Iff.rfl
theorem w_callN2 {g : FF} {i j : Int} : Ok (fCallN2 g f i j env) P ↔ Ok (f env) (KCallN2 g i j P) := by
  refine ok_bind_iff fun ⟨r, e⟩ => ?_
  cases r with
  | new ds =>
    show Ok (Option.bind (g [.lst ds, .int i, .int j]) _) P ↔ Ok (g [.lst ds, .int i, .int j]) (KBackN e P)
    refine ok_bind_iff fun x => ?_
    show Ok (Option.bind (resR x) _) P ↔ _
    unfold KBackN
    cases resR x with
    | none => exact ok_none (P := P)
    | some z => exact ok_some (P := P)
  | _ => exact ok_none (P := P)
end
end Dv

/-! the head by facts: what a law's walk needs, read off the heap behind the top -/
namespace Hd
open PySem PySem.Spec PyProof.Rows L2 He
/-- where the module's names stand -/
def adN (g : Addr → Option Obj) (xs : List Str) : List Addr :=
  let K := frG g [mainGlobals]
  xs.filterMap fun x => match PySem.W.nsIn K mainGlobals x with
    | some (some (.ref a)) => some a
    | _ => none
def grN (g : Addr → Option Obj) : Nat → List Addr → List Addr
  | 0, as => as
  | n + 1, as => grN g n (growG g as)
def asN (g : Addr → Option Obj) (n : Nat) (xs : List Str) : List Addr := mainGlobals :: grN g n (adN g xs)
abbrev AlX : Type := Al × Bool
def obsX (fa : List Fa) (fn : List FnD) (ex : List (PySem.W.Frag → Bool)) (K : PySem.W.Frag) : AlX := (obsE fa fn K, ex.all fun f => f K)
def valX (fn : List FnD) : AlX := (valE fn, true)
def obsXG (n : Nat) (xs : List Str) (fa : List Fa) (fn : List FnD) (ex : List (PySem.W.Frag → Bool)) (g : Addr → Option Obj) : AlX := obsX fa fn ex (frG g (asN g n xs))
def hookX (n : Nat) (xs : List Str) (fa : List Fa) (fn : List FnD) (ex : List (PySem.W.Frag → Bool)) : PySem.W.Hook where
  α := AlX
  obs := fun s => obsXG n xs fa fn ex s.heap.get?
  val := fun _ => valX fn
  says := fun _ h => ∃ K : PySem.W.Frag, K.In h ∧ obsX fa fn ex K = valX fn
  of := fun _ _ e => ⟨_, frG_in, e⟩
  keeps := fun _ _ _ ⟨K, hK, c⟩ k => ⟨K, PySem.W.Frag.In.keeps hK k, c⟩
theorem obsXG_eq {n : Nat} {xs : List Str} {fa : List Fa} {fn : List FnD} {ex : List (PySem.W.Frag → Bool)} {g : Addr → Option Obj} {s : Shared} (h : ∀ a, g a = s.heap.get? a) : obsXG n xs fa fn ex g = (hookX n xs fa fn ex).obs s := by
  have e : g = s.heap.get? := funext h
  rw [e] <;> rfl
section
variable {fa : List Fa} {fn : List FnD} {ex : List (PySem.W.Frag → Bool)} {K : PySem.W.Frag}
theorem saysE (c : obsX fa fn ex K = valX fn) : SaysE fa fn K := congrArg (fun z : AlX => z.1) c
theorem exOf (c : obsX fa fn ex K = valX fn) (i : Nat) {f : PySem.W.Frag → Bool} (h : ex[i]? = some f := by rfl) : f K = true := by
  have c1 : (ex.all fun f => f K) = true := congrArg (fun z : AlX => z.2) c
  exact List.all_eq_true.mp c1 f (List.mem_of_getElem? h)
end
/-- a pair of whole numbers -/
def tupK (K : PySem.W.Frag) (x : Str) (a b : Int) : Bool := match K.lookup (ga K x) with
  | some ⟨.type c, _, .seq ⟨[.int i _, .int j _]⟩ _, _⟩ => decide (c = "tuple") && (decide (i = a) && decide (j = b))
  | _ => false
theorem tupK_ok {K : PySem.W.Frag} {x : Str} {a b : Int} (h : tupK K x a b = true) : ∃ od n sl t u, K.lookup (ga K x) = some ⟨.type "tuple", od, .seq #[.int a t, .int b u] n, sl⟩ := by
  unfold tupK at h
  split at h
  · rename_i c od i t j u n sl e
    obtain ⟨h1, h2⟩ := Bool.and_eq_true_iff.mp h
    obtain ⟨h3, h4⟩ := Bool.and_eq_true_iff.mp h2
    have e1 := of_decide_eq_true h1
    have e2 := of_decide_eq_true h3
    have e3 := of_decide_eq_true h4
    subst e1 e2 e3
    exact ⟨_, _, _, _, _, e⟩
  · cases h
theorem walk_ofN {l : PySem.W.OpenLaw} {n k : Nat} {q : Program} {loose : List Str} {XP : (Str → Option Value) → Heap → Prop} {YP : World → Heap → Prop} {d : DefRec} {CX : CXT} {x : Str}
    (hn : l.most = some n) (hn2 : n ≤ sizeLine) (hdf : d.params.defaults = []) (hr : Room k callerA)
    (F : ∀ (w : World) (mg : Str → Option Value) (fa : Addr) (h : Heap), YP w h → h.Ns mainGlobals mg → mg d.name = some (.ref fa) →
      ∃ (K : PySem.W.Frag) (fd : FuncData) (sp : Sp), K.In h ∧ (∀ (s : Shared) (u : Value), BindsTo s fd ⟨[u], []⟩ [(x, u)]) ∧
        (∀ (H : Hp) (a : Addr) (ns : List Int), ns.length ≤ n → (∀ z ∈ ns, Builtin.Int.intBits z ≤ 1048576) → Only H → SqL K H a (ns.map V.int) → sp [.ref a] H (fun v _ => v = .bl true) fun _ _ _ => False) ∧
        ∀ base : Heap, K.In base → base.Ns mainGlobals mg → FnOk l.prog w K mg base CX k fa fd [x] sp)
    (hCX : ∀ (H : Hp) (s : Shared) (e : Value) (s' : Shared), CX [] H s (fun _ _ _ => False) e s' → False) :
    PySem.W.WalkO q loose XP YP l.row.toRowW d [] (fun f vs => PySem.call f vs) := by
  refine Att.attach_callB hn hdf fun w s₀ s₁ mg mb fa o pm cd doc a vs ns G Y ho hd hcd hmg hobj hints hlen hbits hg => ?_
  obtain ⟨K, fd, sp, KX, hb, hsp, hF⟩ := F w mg fa _ Y G.T.g hmg
  exact law_call KX G.T.g G.T.b G.T.builtins G.T.nolimit hg hobj hints (Nat.le_trans hlen hn2) hr hF hb (fun H hO hS => hsp H a ns hlen hbits hO hS) fun H e s' => hCX H s₁ e s'
end Hd

/-! what the defs do, as plain functions of trees: printed by gen.py -/
noncomputable section
namespace Lw
open PySem L2 Dv
def kw : Nat → Str
  | 0 => "NoRatio"
  | 1 => "Nought"
  | 2 => "NoTable"
  | 3 => "NoStep"
  | 4 => "NoSide"
  | 5 => "NoPart"
  | 6 => "TooMuch"
  | 7 => "CommonPart"
  | 8 => "NoText"
  | 9 => "NoName"
  | 10 => "NotFine"
  | _ => ""
def kc_law_class : Nat → Str
  | 1 => "nought"
  | _ => ""
def bk__law_class_Nought (a : Addr) : SFn :=
  (fSeq (fAsg (fLst (fCons (fIsE 0 a true) (fCons (fIsE 0 a false) (fCons (fIsE 0 a false) (fCons (fIsE 0 a false) fNil))))) (gfName 1))
  (fSeq (fAsg (f2 gAdd (fVar 1) (fLst (fCons (fIsE 0 a false) (fCons (fIsE 0 a false) (fCons (fIsE 0 a false) (fCons (fIsE 0 a false) fNil)))))) (gfName 1))
  (fSeq (fAsg (f2 gAdd (fVar 1) (fLst (fCons (fIsE 0 a false) (fCons (fIsE 0 a false) fNil)))) (gfName 1))
  (fSeq (fIf (fOr (fT (f2 gNe (fM1 gCount 1 (fC (.bl true))) (fC (.int 1)))) (fNot (fT (fIsE 0 a true))))
  (fRet (fC (.str "other")))
  fNext)
  (fRet (f2 gIx (fLst (fCons (fC (.str "nought")) (fCons (fC (.str "much")) (fCons (fC (.str "common")) (fCons (fC (.str "part")) (fCons (fC (.str "ratio")) (fCons (fC (.str "side")) (fCons (fC (.str "step")) (fCons (fC (.str "table")) (fCons (fC (.str "text")) (fCons (fC (.str "name")) fNil))))))))))) (fM1 gIndex 1 (fC (.bl true)))))))))
def b_look_sums : SFn :=
  (fFor (fIterL (fVar 0)) (gfName 1)
  (fIf (fT (f2 gEq (fVar 1) (fLst fNil)))
  fNever
  fNext))
def ev_look_sums : FF := fDef 1 [false] b_look_sums
def bx_look_sums : SFn :=
  (fFor (fIterL (fVar 0)) (gfName 1)
  (fIf (fT (f2 gEq (fVar 1) (fLst fNil)))
  (fRaise 1)
  fNext))
def evx_look_sums : FX := fDefX 1 [false] bx_look_sums
def b_eliminant : SFn :=
  (fSeq (fDrop (fCall [false] ev_look_sums (fCons (fLst (fCons (fVar 0) (fCons (fVar 1) fNil))) fNil)))
  fNeverS)
def ev_eliminant : FF := fDef 4 [false, false] b_eliminant
def bx_eliminant : SFn :=
  (fSeq (fDropX (fCallX [false] evx_look_sums (fCons (fLst (fCons (fVar 0) (fCons (fVar 1) fNil))) fNil)))
  fNeverS)
def evx_eliminant : FX := fDefX 4 [false, false] bx_eliminant
def b_common : SFn :=
  (fSeq (fDrop (fCall [false] ev_look_sums (fCons (fLst (fCons (fVar 0) (fCons (fVar 1) fNil))) fNil)))
  fNeverS)
def ev_common : FF := fDef 5 [false, false] b_common
def bx_common : SFn :=
  (fSeq (fDropX (fCallX [false] evx_look_sums (fCons (fLst (fCons (fVar 0) (fCons (fVar 1) fNil))) fNil)))
  fNeverS)
def evx_common : FX := fDefX 5 [false, false] bx_common
def b_parted : SFn :=
  (fSeq (fDrop (fCall [false] ev_look_sums (fCons (fLst (fCons (fVar 1) fNil)) fNil)))
  fNeverS)
def ev_parted : FF := fDef 3 [false, false] b_parted
def bx_parted : SFn :=
  (fSeq (fDropX (fCallX [false] evx_look_sums (fCons (fLst (fCons (fVar 1) fNil)) fNil)))
  fNeverS)
def evx_parted : FX := fDefX 3 [false, false] bx_parted
def b_Rests__init__ : SFn :=
  (fSeq (fDrop (fCall [false] ev_look_sums (fCons (fLst (fCons (fVar 1) (fCons (fVar 2) fNil))) fNil)))
  fNeverS)
def ev_Rests__init__ : FF := fDef 0 [false, false, false] b_Rests__init__
def bx_Rests__init__ : SFn :=
  (fSeq (fDropX (fCallX [false] evx_look_sums (fCons (fLst (fCons (fVar 1) (fCons (fVar 2) fNil))) fNil)))
  fNeverS)
def evx_Rests__init__ : FX := fDefX 0 [false, false, false] bx_Rests__init__
def b__law_pool : SFn :=
  (fSeq (fAsg (f2 gAdd (f2 gMul (fC (.int 3)) (fVar 1)) (fC (.int 1))) (gfName 2))
  (fCut (fSeq (fIf (fT (f2 gLt (fVar 1) (fB gLen (fCons (fVar 0) fNil))))
  (fAsg (f2 gIx (fVar 0) (fVar 1)) (gfName 2))
  fNext)
  (fSeq (fAsg (fB gAbs (fCons (fVar 2) fNil)) (gfName 3))
  (fCut (fSeq (fIf (fT (f2 gLt (fVar 3) (f2 gPow (fC (.int 10)) (fC (.int 18)))))
  (fAsg (fC (.int 0)) (gfName 3))
  fNext)
  (fSeq (fAsg (fTup (fCons (fC (.int 2147483629)) (fCons (fC (.int 2147483587)) (fCons (fC (.int 2147483579)) (fCons (fC (.int 2147483563)) (fCons (fC (.int 2147483549)) (fCons (fC (.int 2147483543)) (fCons (fC (.int 2147483497)) (fCons (fC (.int 2147483489)) fNil))))))))) (gfName 4))
  (fRet (fLst (fCons (fVar 3) (fCons (f2 gMod (f2 gAdd (f2 gAdd (f2 gMul (f2 gMod (fVar 2) (f2 gIx (fVar 4) (f2 gMod (fVar 1) (fC (.int 8))))) (fC (.int 69621))) (f2 gMul (fC (.int 7919)) (fVar 1))) (fC (.int 13))) (fC (.int 2147483647))) fNil)))))))))))
def ev__law_pool : FF := fDef 3 [false, false] b__law_pool
def b__law_take : SFn :=
  (fSeq (fIf (fT (f2 gGt (f2 gIx (fVar 0) (fC (.int 0))) (fC (.int 0))))
  (fSeq (fAsg (f2 gMod (f2 gIx (fVar 0) (fC (.int 0))) (fVar 1)) (gfName 2))
  (fSeq (fSetI 0 (fC (.int 0)) (f2 gDiv (f2 gIx (fVar 0) (fC (.int 0))) (fVar 1)))
  (fRet (fVar 2))))
  fNext)
  (fSeq (fSetI 0 (fC (.int 1)) (f2 gMod (f2 gAdd (f2 gMul (f2 gIx (fVar 0) (fC (.int 1))) (fC (.int 48271))) (fC (.int 11))) (fC (.int 2147483647))))
  (fRet (f2 gMod (f2 gDiv (f2 gMod (f2 gPow (f2 gIx (fVar 0) (fC (.int 1))) (fC (.int 5))) (fC (.int 2147483629))) (fC (.int 31))) (fVar 1)))))
def ev__law_take : FF := fDef 1 [true, false] b__law_take
def b__law_low : SFn :=
  (fSeq (fPar 2 3 (fCons (fB gAbs (fCons (fVar 0) fNil)) (fCons (fB gAbs (fCons (fVar 1) fNil)) fNil)))
  (fSeq (fWhile fuelE (fT (f2 gGt (fVar 3) (fC (.int 0))))
  (fPar 2 3 (fCons (fVar 3) (fCons (f2 gMod (fVar 2) (fVar 3)) fNil))))
  (fCut (fSeq (fIf (fT (f2 gLt (fVar 1) (fC (.int 0))))
  (fAsg (f1 gNeg (fVar 2)) (gfName 2))
  fNext)
  (fRet (fTup (fCons (f2 gDiv (fVar 0) (fVar 2)) (fCons (f2 gDiv (fVar 1) (fVar 2)) fNil))))))))
def ev__law_low : FF := fDef 2 [false, false] b__law_low
def b__law_told : SFn :=
  (fRet (fLc (fIterL (fB gDSortF (fCons (fVar 0) fNil))) (gfTup 2 (gfCons (gfName 1) (gfCons (gfName 2) gfNil))) (fT (f2 gNe (f2 gIx (f2 gDIx (fVar 0) (fTupN (fCons (fVar 1) (fCons (fVar 2) fNil)))) (fC (.int 0))) (fC (.int 0)))) (fTup (fCons (fVar 1) (fCons (fVar 2) (fCons (f2 gDIx (fVar 0) (fTupN (fCons (fVar 1) (fCons (fVar 2) fNil)))) fNil)))) [1, 2]))
def ev__law_told : FF := fDef 2 [false] b__law_told
def b__law_number : SFn :=
  (fSeq (fAsg (fCall [true, false] ev__law_take (fCons (fVar 0) (fCons (fC (.int 12)) fNil))) (gfName 1))
  (fSeq (fAsg (f2 gAdd (fC (.int 1)) (fCall [true, false] ev__law_take (fCons (fVar 0) (fCons (fC (.int 5)) fNil)))) (gfName 2))
  (fSeq (fAsg (fC (.int 1)) (gfName 3))
  (fCut (fSeq (fIf (fT (f2 gGt (fVar 1) (fC (.int 7))))
  (fAsg (f2 gAdd (fC (.int 1)) (fCall [true, false] ev__law_take (fCons (fVar 0) (fCons (fC (.int 4)) fNil)))) (gfName 3))
  fNext)
  (fCut (fSeq (fIf (fT (f2 gEq (fVar 1) (fC (.int 11))))
  (fSeq (fAsg (f2 gAdd (fC (.int 1)) (fCall [true, false] ev__law_take (fCons (fVar 0) (fCons (fC (.int 99999)) fNil)))) (gfName 2))
  (fAsg (f2 gAdd (fC (.int 1)) (fCall [true, false] ev__law_take (fCons (fVar 0) (fCons (fC (.int 999)) fNil)))) (gfName 3)))
  fNext)
  (fRet (fCall [false, false] ev__law_low (fCons (f2 gMul (fVar 2) (f2 gSub (fC (.int 1)) (f2 gMul (fC (.int 2)) (fCall [true, false] ev__law_take (fCons (fVar 0) (fCons (fC (.int 2)) fNil)))))) (fCons (fVar 3) fNil)))))))))))
def ev__law_number : FF := fDef 3 [true] b__law_number
def b__law_sum_by : SFn :=
  (fSeq (fDNew 3)
  (fSeq (fFor (fRange1 (fCons (f2 gAdd (fC (.int 1)) (fCall [true, false] ev__law_take (fCons (fVar 0) (fCons (fVar 1) fNil)))) fNil)) (gfName 4)
  (fSeq (fAsg (f2 gSub (fCall [true, false] ev__law_take (fCons (fVar 0) (fCons (f2 gAdd (f2 gMul (fC (.int 2)) (fVar 2)) (fC (.int 1))) fNil))) (fVar 2)) (gfName 5))
  (fDPut 3 (fTupN (fCons (fVar 5) (fCons (f2 gSub (fCall [true, false] ev__law_take (fCons (fVar 0) (fCons (f2 gAdd (f2 gMul (fC (.int 2)) (fVar 2)) (fC (.int 1))) fNil))) (fVar 2)) fNil))) (fCall [true] ev__law_number (fCons (fVar 0) fNil)))))
  (fFrzD 3 (fRet (fCall [false] ev__law_told (fCons (fVar 3) fNil))))))
def ev__law_sum_by : FF := fDef 3 [true, false, false] b__law_sum_by
def b__law_asked : SFn :=
  (fSeq (fTry 3 [1] (fIf (fT (f2 gEq (fVar 0) (fC (.int 0))))
  (fDropX (fCallX [false, false] evx_eliminant (fCons (fVar 1) (fCons (fVar 2) fNil))))
  (fIf (fT (f2 gEq (fVar 0) (fC (.int 1))))
  (fDropX (fCallX [false, false] evx_common (fCons (fVar 1) (fCons (fVar 2) fNil))))
  (fIf (fT (f2 gEq (fVar 0) (fC (.int 2))))
  (fDropX (fMakeX 1 [false, false] evx_Rests__init__ (fCons (fVar 1) (fCons (fVar 2) fNil))))
  (fDropX (fCallX [false, false] evx_parted (fCons (fVar 1) (fCons (fVar 2) fNil))))))) (fun n => (fC (.str (kc_law_class n)))))
  (fRet (fC (.str "told"))))
def ev__law_asked : FF := fDef 1 [false, false, false] b__law_asked
def b_law : SFn :=
  (fSeq (fAsg (fCallN2 ev__law_sum_by (fCall [false, false] ev__law_pool (fCons (fVar 0) (fCons (fC (.int 0)) fNil))) 4 2) (gfName 1))
  (fSeq (fAsg (fB gList (fCons (fVar 1) fNil)) (gfName 2))
  (fSeq (fFor (fRange1 (fCons (fC (.int 3)) fNil)) (gfName 3)
  (fFor (fIterL (fLst (fCons (fTup (fCons (fVar 2) (fCons (fLst fNil) fNil))) (fCons (fTup (fCons (fLst fNil) (fCons (fVar 2) fNil))) (fCons (fTup (fCons (fLst fNil) (fCons (fLst fNil) fNil))) fNil))))) (gfTup 2 (gfCons (gfName 4) (gfCons (gfName 5) gfNil)))
  (fIf (fOr (fT (f2 gNe (fCall [false, false, false] ev__law_asked (fCons (fVar 3) (fCons (fVar 4) (fCons (fVar 5) fNil)))) (fC (.str "nought")))) (fT (f2 gNe (fVar 2) (fVar 1))))
  (fRet (fC (.bl false)))
  fNext)))
  (fRet (fAndV (f2 gEq (fCall [false, false, false] ev__law_asked (fCons (fC (.int 3)) (fCons (fVar 2) (fCons (fLst fNil) fNil)))) (fC (.str "nought"))) (fAndV (f2 gEq (fCall [false, false, false] ev__law_asked (fCons (fC (.int 3)) (fCons (fLst fNil) (fCons (fLst fNil) fNil)))) (fC (.str "nought"))) (f2 gEq (fVar 2) (fVar 1))))))))
def ev_law : FF := fDef 5 [false] b_law
end Lw

local macro_rules | `(tactic| walk_at "ev") => `(tactic| simp only [Dv.w_callN2, Dv.k_callN2, Dv.w_chn, Dv.k_ch1, Dv.k_ch2, Dv.k_ch3, Dv.w_s1, Dv.k_s1, Dv.k_s2, Dv.d_s1, Dv.w_iterS, Dv.k_itS, Dv.gInSigF, Dv.gInSigT, Dv.gLenS, Dv.gAddS, Dv.gSlS, Dv.gSplit, Dv.gPart, Dv.gEqS_txt, Dv.gNeS_txt, Dv.dct_0I, Dv.dct_sI, Dv.w_dnewI, Dv.keyI_1, Dv.q_dixI, Dv.k_dixI, Dv.w_dixI, Dv.q_dg2I, Dv.k_dg2I, Dv.q_dg1I, Dv.k_dg1I, Dv.w_dget2I, Dv.q_dinI, Dv.k_dinI, Dv.w_dinI, Dv.q_dpI, Dv.k_dp2I, Dv.k_dp2nI, Dv.k_dp1I, Dv.w_dputI, Dv.q_dmI, Dv.w_dmaxI, Dv.q_frzD, Dv.w_frzD, Dv.w_ixN, Dv.w_gtupN, Dv.k_itN, Dv.isi_tuple_nt, Dv.q_frz, Dv.w_frz, Dv.q_forApp, Dv.w_forApp, Dv.k_ownXe, Dv.k_ownXn, Dv.w_ownX, Dv.w_gunl, Dv.gInT_2, Dv.gNotInT_2, Dv.q_o2v, Dv.k_o2v, Dv.w_o2v, Dv.w_nilN, Dv.k_consN2, Dv.k_consN, Dv.w_consN, Dv.k_ls2, Dv.w_ls2, Dv.q_o2, Dv.k_o2, Dv.k_o2b, Dv.w_o2, Dv.q_lend2, Dv.k_lend2, Dv.w_lend2, Dv.nn_nw, Dv.nn_no, Dv.nn_fz, Dv.nn_o1, Dv.nn_io, Dv.mapL_c, Dv.mapL_n, Dv.m_nw, Dv.dct_0, Dv.dct_s, Dv.free_nw, Dv.keep_nw, Dv.w_dnew, Dv.q_tupN, Dv.k_tupN, Dv.w_tupN, Dv.w_varN, Dv.key_2, Dv.k_v, Dv.q_dix, Dv.k_dix, Dv.w_dix, Dv.q_dg2, Dv.k_dg2, Dv.q_dg1, Dv.k_dg1, Dv.w_dget2, Dv.q_din, Dv.k_din, Dv.w_din, Dv.q_dp, Dv.k_dp2, Dv.k_dp2n, Dv.k_dp1, Dv.w_dput, Dv.q_ds2, Dv.q_ds, Dv.w_dsort, Dv.encK_len, Dv.kVal_enc, Dv.pairK_enc, Dv.pD_R, Option.isSome_some, Dv.k_putB, Dv.q_par3, Dv.k_par3, Dv.w_par3, Dv.dropL_eq, Dv.k_pop2, Dv.k_pop1, Dv.q_pop, Dv.w_pop, Dv.k_ownVn, Dv.k_ownVv, Dv.w_ownV, Dv.q_lend, Dv.k_lend, Dv.w_lend, Dv.m_fz, Dv.m_no, Dv.m_oo, Dv.m_ii, Dv.m_of, Dv.o_fz, Dv.o_no, Dv.o_o1, Dv.o_io, Dv.n_val, Dv.n_new, List.zipWith_cons_cons, List.zipWith_nil_left, Dv.k_backNF, Dv.k_backNT, Dv.k_callN, Dv.w_callN, Dv.gSortSet_R, Dv.gSlT, Dv.gRevL, Dv.k_isE, Dv.w_isE, Dv.k_m1b, Dv.q_m1, Dv.k_m1, Dv.w_m1, Dv.w_raise, Dv.k_dropXe, Dv.k_dropXv, Dv.k_dropXn, Dv.w_dropX, Dv.k_asgXe, Dv.k_asgXv, Dv.k_asgXn, Dv.w_asgX, Dv.k_backXe, Dv.k_backXv, Dv.k_backXn, Dv.q_argX, Dv.k_callX, Dv.w_callX, Dv.k_rxv, Dv.k_rxn, Dv.k_hnd, Dv.k_tryE, Dv.k_tryV, Dv.k_tryW, Dv.k_tryN, Dv.w_try, Dv.k_finE, Dv.k_finXo, Dv.k_finXw, Dv.k_finXn, Dv.w_var, Dv.w_c, Dv.k_z, Dv.d_2, Dv.k_2b, Dv.k_2, Dv.w_2, Dv.d_1, Dv.k_1, Dv.w_1, Dv.w_nil, Dv.k_cb, Dv.k_c, Dv.w_cons, Dv.d_b, Dv.k_b, Dv.w_b, Dv.d_v, Dv.q_tup, Dv.q_lst, Dv.k_tup, Dv.k_lst, Dv.w_tup, Dv.w_lst, Dv.k_t, Dv.w_T, Dv.k_and, Dv.k_or, Dv.k_not, Dv.w_and, Dv.w_or, Dv.w_not, Dv.w_yes, Dv.k_andV, Dv.k_orV, Dv.k_notV, Dv.k_ifE, Dv.w_andV, Dv.w_orV, Dv.w_notV, Dv.w_ifE,
  Dv.w_tupW, Dv.k_tupW, Dv.k_finT, Dv.k_finXt, Dv.k_resW, Dv.k_backXw, Dv.k_nxt, Dv.k_asg, Dv.k_asgN, Dv.w_asg, Dv.w_name, Dv.k_own, Dv.w_own, Dv.k_put, Dv.q_par, Dv.k_par, Dv.w_par, Dv.k_drop, Dv.k_ret, Dv.w_drop, Dv.w_ret, Dv.w_next, Dv.w_seq, Dv.k_nx, Dv.k_rt, Dv.k_bk, Dv.k_ct, Dv.k_if, Dv.w_if, Dv.k_setB, Dv.k_set, Dv.w_setI, Dv.k_non, Dv.k_om, Dv.k_omN, Dv.w_om, Dv.w_om0, Dv.d_s, Dv.k_slc, Dv.k_slb, Dv.k_sl, Dv.w_sl, Dv.w_noP, Dv.k_pt, Dv.w_pt, Dv.w_isi, Dv.k_call, Dv.q_arg, Dv.k_back, Dv.k_resF, Dv.k_resT, Dv.w_call, Dv.k_lc, Dv.k_lc2, Dv.k_lc3, Dv.w_lc, Dv.k_for, Dv.w_for, Dv.w_while, Dv.q_r1, Dv.k_r1, Dv.w_range1, Dv.k_il, Dv.k_ilN, Dv.w_iterL, Dv.k_it, Dv.w_iterT, Dv.k_lnx, Dv.k_lct, Dv.k_lbk, Dv.k_lrt, Dv.k_lb, Dv.k_v3, Dv.k_v2, Dv.k_v2n, Dv.k_v1, Dv.k_v0, Dv.k_wnx, Dv.k_wct, Dv.k_wbk, Dv.k_wrt, Dv.k_wc, Dv.k_ix, Dv.k_ixI, Dv.w_ixL, Dv.w_ixT, Dv.w_ixS, Dv.k_cx, Dv.w_put0, Dv.w_putS, Dv.k_o1, Dv.k_io, Dv.w_upo, Dv.w_upi, Dv.w_upS, Dv.k_st, Dv.w_setF, Dv.w_app, Dv.w_ext, Dv.k_wp, Dv.w_wipe0, Dv.w_wipe1, Dv.k_outs, Dv.w_con, Dv.w_outs0, Dv.w_outs1, Dv.k_dr, Dv.w_drop0, Dv.w_drop1, Dv.k_callM, Dv.q_argM, Dv.k_backM, Dv.k_resMF, Dv.k_resMT, Dv.w_callM, Dv.w_mv, Dv.q_en, Dv.k_en, Dv.w_enum, Dv.q_zp, Dv.k_zp, Dv.w_zip, Dv.q_rv, Dv.k_rv, Dv.w_rev, Dv.q_r2, Dv.k_r2, Dv.w_range2, Dv.q_r3, Dv.k_r3, Dv.w_range3, Dv.k_gc, Dv.w_gcons, Dv.w_gnil, Dv.w_gtup, Dv.k_jnx, Dv.k_jrt, Dv.k_jbk, Dv.k_jct, Dv.w_cut, Dv.w_loop0, Dv.w_loop1, Dv.k_tgt, Dv.k_tnx, Dv.k_tct, Dv.k_tbk, Dv.k_trt, Dv.free_keep, Dv.keep_no, Dv.keep_fz, Dv.keep_o1, Dv.gAdd_lst, Dv.gMul_lst, Dv.rangeD_1, Dv.rangeD_2, Dv.rangeD_3, Dv.rangeD_4, Dv.gEq_Lm, Dv.gNe_Lm, Dv.gEq_Ln, Dv.gNe_Ln, Dv.noL, Dv.noLs, Bool.not_true, Bool.not_false, Bool.false_or, Bool.or_false, if_true, if_false, Dv.free_no, Dv.free_fz, Dv.free_o1, Dv.k_finN, Dv.k_finV, Dv.k_finW, Dv.k_finS,
  Dv.gIs_bl, Dv.gIsnt_bl, Dv.gIs_no, Dv.gIsnt_no, Dv.gEq_bl, Dv.gNe_bl, Dv.isNon, Dv.gEq_int, Dv.gNe_int, Dv.gAdd_int, Dv.gSub_int, Dv.gMul_int, Dv.gDiv_int, Dv.gMod_int, Dv.gPow_int, Dv.gLt_int, Dv.gLe_int, Dv.gGt_int, Dv.gGe_int, Dv.gNeg, Dv.isi_int_non, Dv.isi_int_bl, Dv.isi_int_int, Dv.isi_int_str, Dv.isi_int_lst, Dv.isi_int_tup, Dv.isi_bool_non, Dv.isi_bool_bl, Dv.isi_bool_int, Dv.isi_bool_str, Dv.isi_bool_lst, Dv.isi_bool_tup, Dv.isi_tuple_non, Dv.isi_tuple_bl, Dv.isi_tuple_int, Dv.isi_tuple_str, Dv.isi_tuple_lst, Dv.isi_tuple_tup, Dv.isi_list_non, Dv.isi_list_bl, Dv.isi_list_int, Dv.isi_list_str, Dv.isi_list_lst, Dv.isi_list_tup, Dv.isi_str_non, Dv.isi_str_bl, Dv.isi_str_int, Dv.isi_str_str, Dv.isi_str_lst, Dv.isi_str_tup, Dv.gLen, Dv.gAbs, Dv.gMax2, Dv.gMin2, Dv.gInt, Dv.gList, Dv.gSlL,
  Dv.ok_some, Dv.ok_none, Dv.ok_guard, Dv.deref, Dv.frz, Dv.derefs, Dv.allVal, Dv.outF, Dv.outE, Dv.ioIx, Dv.argD, Dv.isOwn_0, Dv.isOwn_s, Dv.atI_0, Dv.atI_1, Dv.atI_2, Dv.atI_3, Dv.atI_4, Dv.atI_5, Dv.atI_6, Dv.atI_7, Dv.atI_neg, Dv.ixN20, Dv.ixN30, Dv.ixN31, Dv.ixN32, Dv.ixN21, Dv.restE,
  Option.bind_some, Option.bind_none, Option.map_some, List.replicate, List.cons_append, List.nil_append, List.getElem?_cons_zero, List.getElem?_cons_succ, decide_eq_true_eq, decide_eq_false_iff_not, Bool.not_eq_true', Bool.not_eq_false', forall_const, List.length_cons, List.length_nil, List.length_map, Int.toNat_natCast, Int.zero_add, Nat.zero_add, List.set_cons_zero, List.set_cons_succ, Nat.reduceAdd, Int.reduceToNat, Int.reducePow, Int.cast_ofNat_Int, Int.reduceEq, eq_self, not_true_eq_false, Int.reduceLE, Nat.reduceLeDiff, Int.reduceNeg, true_and, and_true, List.nodup_nil, List.nodup_cons, List.isEmpty_nil, List.isEmpty_cons, Bool.true_or, Bool.and_self, List.all_nil, List.all_cons, implies_true, List.not_mem_nil, not_false_eq_true, decide_true, Bool.true_and, Bool.and_true, reduceCtorEq, false_implies])
local macro_rules | `(tactic| walk_at "evj") => `(tactic| simp only [Dv.w_callN2, Dv.k_callN2, Dv.w_chn, Dv.k_ch1, Dv.k_ch2, Dv.k_ch3, Dv.w_s1, Dv.k_s1, Dv.k_s2, Dv.d_s1, Dv.w_iterS, Dv.k_itS, Dv.gInSigF, Dv.gInSigT, Dv.gLenS, Dv.gAddS, Dv.gSlS, Dv.gSplit, Dv.gPart, Dv.gEqS_txt, Dv.gNeS_txt, Dv.dct_0I, Dv.dct_sI, Dv.w_dnewI, Dv.keyI_1, Dv.q_dixI, Dv.k_dixI, Dv.w_dixI, Dv.q_dg2I, Dv.k_dg2I, Dv.q_dg1I, Dv.k_dg1I, Dv.w_dget2I, Dv.q_dinI, Dv.k_dinI, Dv.w_dinI, Dv.q_dpI, Dv.k_dp2I, Dv.k_dp2nI, Dv.k_dp1I, Dv.w_dputI, Dv.q_dmI, Dv.w_dmaxI, Dv.q_frzD, Dv.w_frzD, Dv.w_ixN, Dv.w_gtupN, Dv.k_itN, Dv.isi_tuple_nt, Dv.q_frz, Dv.w_frz, Dv.q_forApp, Dv.w_forApp, Dv.k_ownXe, Dv.k_ownXn, Dv.w_ownX, Dv.w_gunl, Dv.gInT_2, Dv.gNotInT_2, Dv.q_o2v, Dv.k_o2v, Dv.w_o2v, Dv.w_nilN, Dv.k_consN2, Dv.k_consN, Dv.w_consN, Dv.k_ls2, Dv.w_ls2, Dv.q_o2, Dv.k_o2, Dv.k_o2b, Dv.w_o2, Dv.q_lend2, Dv.k_lend2, Dv.w_lend2, Dv.nn_nw, Dv.nn_no, Dv.nn_fz, Dv.nn_o1, Dv.nn_io, Dv.mapL_c, Dv.mapL_n, Dv.m_nw, Dv.dct_0, Dv.dct_s, Dv.free_nw, Dv.keep_nw, Dv.w_dnew, Dv.q_tupN, Dv.k_tupN, Dv.w_tupN, Dv.w_varN, Dv.key_2, Dv.k_v, Dv.q_dix, Dv.k_dix, Dv.w_dix, Dv.q_dg2, Dv.k_dg2, Dv.q_dg1, Dv.k_dg1, Dv.w_dget2, Dv.q_din, Dv.k_din, Dv.w_din, Dv.q_dp, Dv.k_dp2, Dv.k_dp2n, Dv.k_dp1, Dv.w_dput, Dv.q_ds2, Dv.q_ds, Dv.w_dsort, Dv.encK_len, Dv.kVal_enc, Dv.pairK_enc, Dv.pD_R, Option.isSome_some, Dv.k_putB, Dv.q_par3, Dv.k_par3, Dv.w_par3, Dv.dropL_eq, Dv.k_pop2, Dv.k_pop1, Dv.q_pop, Dv.w_pop, Dv.k_ownVn, Dv.k_ownVv, Dv.w_ownV, Dv.q_lend, Dv.k_lend, Dv.w_lend, Dv.m_fz, Dv.m_no, Dv.m_oo, Dv.m_ii, Dv.m_of, Dv.o_fz, Dv.o_no, Dv.o_o1, Dv.o_io, Dv.n_val, Dv.n_new, List.zipWith_cons_cons, List.zipWith_nil_left, Dv.k_backNF, Dv.k_backNT, Dv.k_callN, Dv.w_callN, Dv.gSortSet_R, Dv.gSlT, Dv.gRevL, Dv.k_isE, Dv.w_isE, Dv.k_m1b, Dv.q_m1, Dv.k_m1, Dv.w_m1, Dv.w_raise, Dv.k_dropXe, Dv.k_dropXv, Dv.k_dropXn, Dv.w_dropX, Dv.k_asgXe, Dv.k_asgXv, Dv.k_asgXn, Dv.w_asgX, Dv.k_backXe, Dv.k_backXv, Dv.k_backXn, Dv.q_argX, Dv.k_callX, Dv.w_callX, Dv.k_rxv, Dv.k_rxn, Dv.k_hnd, Dv.k_tryE, Dv.k_tryV, Dv.k_tryW, Dv.k_tryN, Dv.w_try, Dv.k_finE, Dv.k_finXo, Dv.k_finXw, Dv.k_finXn, Dv.w_var, Dv.w_c, Dv.k_z, Dv.d_2, Dv.k_2b, Dv.k_2, Dv.w_2, Dv.d_1, Dv.k_1, Dv.w_1, Dv.w_nil, Dv.k_cb, Dv.k_c, Dv.w_cons, Dv.d_b, Dv.k_b, Dv.w_b, Dv.d_v, Dv.q_tup, Dv.q_lst, Dv.k_tup, Dv.k_lst, Dv.w_tup, Dv.w_lst, Dv.k_t, Dv.w_T, Dv.k_and, Dv.k_or, Dv.k_not, Dv.w_and, Dv.w_or, Dv.w_not, Dv.w_yes, Dv.k_andV, Dv.k_orV, Dv.k_notV, Dv.k_ifE, Dv.w_andV, Dv.w_orV, Dv.w_notV, Dv.w_ifE,
  Dv.w_tupW, Dv.k_tupW, Dv.k_finT, Dv.k_finXt, Dv.k_resW, Dv.k_backXw, Dv.k_nxt, Dv.k_asg, Dv.k_asgN, Dv.w_asg, Dv.w_name, Dv.k_own, Dv.w_own, Dv.k_put, Dv.q_par, Dv.k_par, Dv.w_par, Dv.k_drop, Dv.k_ret, Dv.w_drop, Dv.w_ret, Dv.w_next, Dv.w_seq, Dv.k_nx, Dv.k_rt, Dv.k_bk, Dv.k_ct, Dv.k_if, Dv.w_if, Dv.k_setB, Dv.k_set, Dv.w_setI, Dv.k_non, Dv.k_om, Dv.k_omN, Dv.w_om, Dv.w_om0, Dv.d_s, Dv.k_slc, Dv.k_slb, Dv.k_sl, Dv.w_sl, Dv.w_noP, Dv.k_pt, Dv.w_pt, Dv.w_isi, Dv.k_call, Dv.q_arg, Dv.k_back, Dv.k_resF, Dv.k_resT, Dv.w_call, Dv.k_lc, Dv.k_lc2, Dv.k_lc3, Dv.w_lc, Dv.k_for, Dv.w_for, Dv.w_while, Dv.q_r1, Dv.k_r1, Dv.w_range1, Dv.k_il, Dv.k_ilN, Dv.w_iterL, Dv.k_it, Dv.w_iterT, Dv.k_lnx, Dv.k_lct, Dv.k_lbk, Dv.k_lrt, Dv.k_lb, Dv.k_v3, Dv.k_v2, Dv.k_v2n, Dv.k_v1, Dv.k_v0, Dv.k_wnx, Dv.k_wct, Dv.k_wbk, Dv.k_wrt, Dv.k_wc, Dv.k_ix, Dv.k_ixI, Dv.w_ixL, Dv.w_ixT, Dv.w_ixS, Dv.k_cx, Dv.w_put0, Dv.w_putS, Dv.k_o1, Dv.k_io, Dv.w_upo, Dv.w_upi, Dv.w_upS, Dv.k_st, Dv.w_setF, Dv.w_app, Dv.w_ext, Dv.k_wp, Dv.w_wipe0, Dv.w_wipe1, Dv.k_outs, Dv.w_con, Dv.w_outs0, Dv.w_outs1, Dv.k_dr, Dv.w_drop0, Dv.w_drop1, Dv.k_callM, Dv.q_argM, Dv.k_backM, Dv.k_resMF, Dv.k_resMT, Dv.w_callM, Dv.w_mv, Dv.q_en, Dv.k_en, Dv.w_enum, Dv.q_zp, Dv.k_zp, Dv.w_zip, Dv.q_rv, Dv.k_rv, Dv.w_rev, Dv.q_r2, Dv.k_r2, Dv.w_range2, Dv.q_r3, Dv.k_r3, Dv.w_range3, Dv.k_gc, Dv.w_gcons, Dv.w_gnil, Dv.w_gtup, Dv.k_jnx, Dv.k_jrt, Dv.k_jbk, Dv.k_jct, Dv.w_loop0, Dv.w_loop1, Dv.k_tgt, Dv.k_tnx, Dv.k_tct, Dv.k_tbk, Dv.k_trt, Dv.free_keep, Dv.keep_no, Dv.keep_fz, Dv.keep_o1, Dv.gAdd_lst, Dv.gMul_lst, Dv.rangeD_1, Dv.rangeD_2, Dv.rangeD_3, Dv.rangeD_4, Dv.gEq_Lm, Dv.gNe_Lm, Dv.gEq_Ln, Dv.gNe_Ln, Dv.noL, Dv.noLs, Bool.not_true, Bool.not_false, Bool.false_or, Bool.or_false, if_true, if_false, Dv.free_no, Dv.free_fz, Dv.free_o1, Dv.k_finN, Dv.k_finV, Dv.k_finW, Dv.k_finS,
  Dv.gIs_bl, Dv.gIsnt_bl, Dv.gIs_no, Dv.gIsnt_no, Dv.gEq_bl, Dv.gNe_bl, Dv.isNon, Dv.gEq_int, Dv.gNe_int, Dv.gAdd_int, Dv.gSub_int, Dv.gMul_int, Dv.gDiv_int, Dv.gMod_int, Dv.gPow_int, Dv.gLt_int, Dv.gLe_int, Dv.gGt_int, Dv.gGe_int, Dv.gNeg, Dv.isi_int_non, Dv.isi_int_bl, Dv.isi_int_int, Dv.isi_int_str, Dv.isi_int_lst, Dv.isi_int_tup, Dv.isi_bool_non, Dv.isi_bool_bl, Dv.isi_bool_int, Dv.isi_bool_str, Dv.isi_bool_lst, Dv.isi_bool_tup, Dv.isi_tuple_non, Dv.isi_tuple_bl, Dv.isi_tuple_int, Dv.isi_tuple_str, Dv.isi_tuple_lst, Dv.isi_tuple_tup, Dv.isi_list_non, Dv.isi_list_bl, Dv.isi_list_int, Dv.isi_list_str, Dv.isi_list_lst, Dv.isi_list_tup, Dv.isi_str_non, Dv.isi_str_bl, Dv.isi_str_int, Dv.isi_str_str, Dv.isi_str_lst, Dv.isi_str_tup, Dv.gLen, Dv.gAbs, Dv.gMax2, Dv.gMin2, Dv.gInt, Dv.gList, Dv.gSlL,
  Dv.ok_some, Dv.ok_none, Dv.ok_guard, Dv.deref, Dv.frz, Dv.derefs, Dv.allVal, Dv.outF, Dv.outE, Dv.ioIx, Dv.argD, Dv.isOwn_0, Dv.isOwn_s, Dv.atI_0, Dv.atI_1, Dv.atI_2, Dv.atI_3, Dv.atI_4, Dv.atI_5, Dv.atI_6, Dv.atI_7, Dv.atI_neg, Dv.ixN20, Dv.ixN30, Dv.ixN31, Dv.ixN32, Dv.ixN21, Dv.restE,
  Option.bind_some, Option.bind_none, Option.map_some, List.replicate, List.cons_append, List.nil_append, List.getElem?_cons_zero, List.getElem?_cons_succ, decide_eq_true_eq, decide_eq_false_iff_not, Bool.not_eq_true', Bool.not_eq_false', forall_const, List.length_cons, List.length_nil, List.length_map, Int.toNat_natCast, Int.zero_add, Nat.zero_add, List.set_cons_zero, List.set_cons_succ, Nat.reduceAdd, Int.reduceToNat, Int.reducePow, Int.cast_ofNat_Int, Int.reduceEq, eq_self, not_true_eq_false, Int.reduceLE, Nat.reduceLeDiff, Int.reduceNeg, true_and, and_true, List.nodup_nil, List.nodup_cons, List.isEmpty_nil, List.isEmpty_cons, Bool.true_or, Bool.and_self, List.all_nil, List.all_cons, implies_true, List.not_mem_nil, not_false_eq_true, decide_true, Bool.true_and, Bool.and_true, reduceCtorEq, false_implies])
local macro_rules | `(tactic| walk_at "evk") => `(tactic| simp only [Dv.w_callN2, Dv.k_callN2, Dv.w_chn, Dv.k_ch1, Dv.k_ch2, Dv.k_ch3, Dv.w_s1, Dv.k_s1, Dv.k_s2, Dv.d_s1, Dv.w_iterS, Dv.k_itS, Dv.gInSigF, Dv.gInSigT, Dv.gLenS, Dv.gAddS, Dv.gSlS, Dv.gSplit, Dv.gPart, Dv.gEqS_txt, Dv.gNeS_txt, Dv.dct_0I, Dv.dct_sI, Dv.w_dnewI, Dv.keyI_1, Dv.q_dixI, Dv.k_dixI, Dv.w_dixI, Dv.q_dg2I, Dv.k_dg2I, Dv.q_dg1I, Dv.k_dg1I, Dv.w_dget2I, Dv.q_dinI, Dv.k_dinI, Dv.w_dinI, Dv.q_dpI, Dv.k_dp2I, Dv.k_dp2nI, Dv.k_dp1I, Dv.w_dputI, Dv.q_dmI, Dv.w_dmaxI, Dv.q_frzD, Dv.w_frzD, Dv.w_ixN, Dv.w_gtupN, Dv.k_itN, Dv.isi_tuple_nt, Dv.q_frz, Dv.w_frz, Dv.q_forApp, Dv.w_forApp, Dv.k_ownXe, Dv.k_ownXn, Dv.w_ownX, Dv.w_gunl, Dv.gInT_2, Dv.gNotInT_2, Dv.q_o2v, Dv.k_o2v, Dv.w_o2v, Dv.w_nilN, Dv.k_consN2, Dv.k_consN, Dv.w_consN, Dv.k_ls2, Dv.w_ls2, Dv.q_o2, Dv.k_o2, Dv.k_o2b, Dv.w_o2, Dv.q_lend2, Dv.k_lend2, Dv.w_lend2, Dv.nn_nw, Dv.nn_no, Dv.nn_fz, Dv.nn_o1, Dv.nn_io, Dv.mapL_c, Dv.mapL_n, Dv.m_nw, Dv.dct_0, Dv.dct_s, Dv.free_nw, Dv.keep_nw, Dv.w_dnew, Dv.q_tupN, Dv.k_tupN, Dv.w_tupN, Dv.w_varN, Dv.key_2, Dv.k_v, Dv.q_dix, Dv.k_dix, Dv.w_dix, Dv.q_dg2, Dv.k_dg2, Dv.q_dg1, Dv.k_dg1, Dv.w_dget2, Dv.q_din, Dv.k_din, Dv.w_din, Dv.q_dp, Dv.k_dp2, Dv.k_dp2n, Dv.k_dp1, Dv.w_dput, Dv.q_ds2, Dv.q_ds, Dv.w_dsort, Dv.encK_len, Dv.kVal_enc, Dv.pairK_enc, Dv.pD_R, Option.isSome_some, Dv.k_putB, Dv.q_par3, Dv.k_par3, Dv.w_par3, Dv.dropL_eq, Dv.k_pop2, Dv.k_pop1, Dv.q_pop, Dv.w_pop, Dv.k_ownVn, Dv.k_ownVv, Dv.w_ownV, Dv.q_lend, Dv.k_lend, Dv.w_lend, Dv.m_fz, Dv.m_no, Dv.m_oo, Dv.m_ii, Dv.m_of, Dv.o_fz, Dv.o_no, Dv.o_o1, Dv.o_io, Dv.n_val, Dv.n_new, List.zipWith_cons_cons, List.zipWith_nil_left, Dv.k_backNF, Dv.k_backNT, Dv.k_callN, Dv.w_callN, Dv.gSortSet_R, Dv.gSlT, Dv.gRevL, Dv.k_isE, Dv.w_isE, Dv.k_m1b, Dv.q_m1, Dv.k_m1, Dv.w_m1, Dv.w_raise, Dv.k_dropXe, Dv.k_dropXv, Dv.k_dropXn, Dv.w_dropX, Dv.k_asgXe, Dv.k_asgXv, Dv.k_asgXn, Dv.w_asgX, Dv.k_backXe, Dv.k_backXv, Dv.k_backXn, Dv.q_argX, Dv.k_callX, Dv.w_callX, Dv.k_rxv, Dv.k_rxn, Dv.k_hnd, Dv.k_tryE, Dv.k_tryV, Dv.k_tryW, Dv.k_tryN, Dv.w_try, Dv.k_finE, Dv.k_finXo, Dv.k_finXw, Dv.k_finXn, Dv.w_var, Dv.w_c, Dv.k_z, Dv.d_2, Dv.k_2b, Dv.k_2, Dv.w_2, Dv.d_1, Dv.k_1, Dv.w_1, Dv.w_nil, Dv.k_cb, Dv.k_c, Dv.w_cons, Dv.d_b, Dv.k_b, Dv.w_b, Dv.d_v, Dv.q_tup, Dv.q_lst, Dv.k_tup, Dv.k_lst, Dv.w_tup, Dv.w_lst, Dv.k_t, Dv.w_T, Dv.k_and, Dv.k_or, Dv.k_not, Dv.w_and, Dv.w_or, Dv.w_not, Dv.w_yes, Dv.k_andV, Dv.k_orV, Dv.k_notV, Dv.k_ifE, Dv.w_andV, Dv.w_orV, Dv.w_notV, Dv.w_ifE,
  Dv.w_tupW, Dv.k_tupW, Dv.k_finT, Dv.k_finXt, Dv.k_resW, Dv.k_backXw, Dv.k_nxt, Dv.k_asg, Dv.k_asgN, Dv.w_asg, Dv.w_name, Dv.k_own, Dv.w_own, Dv.k_put, Dv.q_par, Dv.k_par, Dv.w_par, Dv.k_drop, Dv.k_ret, Dv.w_drop, Dv.w_ret, Dv.w_next, Dv.w_seq, Dv.k_nx, Dv.k_rt, Dv.k_bk, Dv.k_ct, Dv.k_if, Dv.w_if, Dv.k_setB, Dv.k_set, Dv.w_setI, Dv.k_non, Dv.k_om, Dv.k_omN, Dv.w_om, Dv.w_om0, Dv.d_s, Dv.k_slc, Dv.k_slb, Dv.k_sl, Dv.w_sl, Dv.w_noP, Dv.k_pt, Dv.w_pt, Dv.w_isi, Dv.k_call, Dv.q_arg, Dv.k_back, Dv.k_resF, Dv.k_resT, Dv.w_call, Dv.k_lc, Dv.k_lc2, Dv.k_lc3, Dv.w_lc, Dv.k_for, Dv.w_for, Dv.w_while, Dv.q_r1, Dv.k_r1, Dv.w_range1, Dv.k_il, Dv.k_ilN, Dv.w_iterL, Dv.k_it, Dv.w_iterT, Dv.k_lnx, Dv.k_lct, Dv.k_lbk, Dv.k_lrt, Dv.k_lb, Dv.k_v3, Dv.k_v2, Dv.k_v2n, Dv.k_v1, Dv.k_v0, Dv.k_wnx, Dv.k_wct, Dv.k_wbk, Dv.k_wrt, Dv.k_wc, Dv.k_ix, Dv.k_ixI, Dv.w_ixL, Dv.w_ixT, Dv.w_ixS, Dv.k_cx, Dv.w_put0, Dv.w_putS, Dv.k_o1, Dv.k_io, Dv.w_upo, Dv.w_upi, Dv.w_upS, Dv.k_st, Dv.w_setF, Dv.w_app, Dv.w_ext, Dv.k_wp, Dv.w_wipe0, Dv.w_wipe1, Dv.k_outs, Dv.w_con, Dv.w_outs0, Dv.w_outs1, Dv.k_dr, Dv.w_drop0, Dv.w_drop1, Dv.k_callM, Dv.q_argM, Dv.k_backM, Dv.k_resMF, Dv.k_resMT, Dv.w_callM, Dv.w_mv, Dv.q_en, Dv.k_en, Dv.w_enum, Dv.q_zp, Dv.k_zp, Dv.w_zip, Dv.q_rv, Dv.k_rv, Dv.w_rev, Dv.q_r2, Dv.k_r2, Dv.w_range2, Dv.q_r3, Dv.k_r3, Dv.w_range3, Dv.k_gc, Dv.w_gcons, Dv.w_gnil, Dv.w_gtup, Dv.k_jnx, Dv.k_jrt, Dv.k_jbk, Dv.k_jct, Dv.w_cut, Dv.k_tgt, Dv.k_tnx, Dv.k_tct, Dv.k_tbk, Dv.k_trt, Dv.free_keep, Dv.keep_no, Dv.keep_fz, Dv.keep_o1, Dv.gAdd_lst, Dv.gMul_lst, Dv.gEq_Lm, Dv.gNe_Lm, Dv.gEq_Ln, Dv.gNe_Ln, Dv.noL, Dv.noLs, Bool.not_true, Bool.not_false, Bool.false_or, Bool.or_false, if_true, if_false, Dv.free_no, Dv.free_fz, Dv.free_o1, Dv.k_finN, Dv.k_finV, Dv.k_finW, Dv.k_finS,
  Dv.gIs_bl, Dv.gIsnt_bl, Dv.gIs_no, Dv.gIsnt_no, Dv.gEq_bl, Dv.gNe_bl, Dv.isNon, Dv.gEq_int, Dv.gNe_int, Dv.gAdd_int, Dv.gSub_int, Dv.gMul_int, Dv.gDiv_int, Dv.gMod_int, Dv.gPow_int, Dv.gLt_int, Dv.gLe_int, Dv.gGt_int, Dv.gGe_int, Dv.gNeg, Dv.isi_int_non, Dv.isi_int_bl, Dv.isi_int_int, Dv.isi_int_str, Dv.isi_int_lst, Dv.isi_int_tup, Dv.isi_bool_non, Dv.isi_bool_bl, Dv.isi_bool_int, Dv.isi_bool_str, Dv.isi_bool_lst, Dv.isi_bool_tup, Dv.isi_tuple_non, Dv.isi_tuple_bl, Dv.isi_tuple_int, Dv.isi_tuple_str, Dv.isi_tuple_lst, Dv.isi_tuple_tup, Dv.isi_list_non, Dv.isi_list_bl, Dv.isi_list_int, Dv.isi_list_str, Dv.isi_list_lst, Dv.isi_list_tup, Dv.isi_str_non, Dv.isi_str_bl, Dv.isi_str_int, Dv.isi_str_str, Dv.isi_str_lst, Dv.isi_str_tup, Dv.gLen, Dv.gAbs, Dv.gMax2, Dv.gMin2, Dv.gInt, Dv.gList, Dv.gSlL,
  Dv.ok_some, Dv.ok_none, Dv.ok_guard, Dv.deref, Dv.frz, Dv.derefs, Dv.allVal, Dv.outF, Dv.outE, Dv.ioIx, Dv.argD, Dv.isOwn_0, Dv.isOwn_s, Dv.atI_0, Dv.atI_1, Dv.atI_2, Dv.atI_3, Dv.atI_4, Dv.atI_5, Dv.atI_6, Dv.atI_7, Dv.atI_neg, Dv.ixN20, Dv.ixN30, Dv.ixN31, Dv.ixN32, Dv.ixN21, Dv.restE,
  Option.bind_some, Option.bind_none, Option.map_some, List.replicate, List.cons_append, List.nil_append, List.getElem?_cons_zero, List.getElem?_cons_succ, decide_eq_true_eq, decide_eq_false_iff_not, Bool.not_eq_true', Bool.not_eq_false', forall_const, List.length_cons, List.length_nil, List.length_map, Int.toNat_natCast, Int.zero_add, Nat.zero_add, List.set_cons_zero, List.set_cons_succ, Nat.reduceAdd, Int.reduceToNat, Int.reducePow, Int.cast_ofNat_Int, Int.reduceEq, eq_self, not_true_eq_false, Int.reduceLE, Nat.reduceLeDiff, Int.reduceNeg, true_and, and_true, List.nodup_nil, List.nodup_cons, List.isEmpty_nil, List.isEmpty_cons, Bool.true_or, Bool.and_self, List.all_nil, List.all_cons, implies_true, List.not_mem_nil, not_false_eq_true, decide_true, Bool.true_and, Bool.and_true, reduceCtorEq, false_implies])
namespace Lw
open PySem L2 Dv
theorem ek__law_class_Nought (a : Addr) : ∃ e, bk__law_class_Nought a [.fz (.adr a), .no] = some (.rt (.val (.str (kc_law_class 1))) e) := by
  have key : Ok (bk__law_class_Nought a [.fz (.adr a), .no]) fun o => ∃ e, o = .rt (.val (.str (kc_law_class 1))) e := by
    unfold bk__law_class_Nought
    walk_at "ev"
    refine ok_eq (a := .val (.int 1)) (by rfl) ?_
    walk_at "ev"
    refine ok_eq (a := .val (.int 0)) (by rfl) ?_
    walk_at "ev"
    try refine ok_eq (a := .str (kc_law_class 1)) (by rfl) ?_
    try walk_at "ev"
    exact ⟨_, rfl⟩
  obtain ⟨o, e, e2, h⟩ := key
  exact ⟨e2, by rw [e, h]⟩
end Lw

namespace Lw
open PySem L2 Dv
/-! the greatest common divisor, ratios in lowest terms -/
def gS (t b : Int) : Int := if b < 0 then 0 - (Int.gcd t b : Nat) else (Int.gcd t b : Nat)
def lowR (t b : Int) : R := (t.fdiv (gS t b), b.fdiv (gS t b))
def isR (p : R) : Bool := decide (0 < p.2) && decide (Int.gcd p.1 p.2 = 1)
theorem gcd_le {t b : Int} (h : b ≠ 0) : (Int.gcd t b : Nat) ≤ b.natAbs := Nat.le_of_dvd (by omega) (Int.gcd_dvd_natAbs_right t b)
theorem gcd_pos {t b : Int} (h : b ≠ 0) : 0 < Int.gcd t b := Nat.pos_of_ne_zero fun z => by
  rw [Int.gcd_eq_zero_iff] at z
  exact h z.2
theorem gS_ne {t b : Int} (h : b ≠ 0) : gS t b ≠ 0 := by
  have := gcd_pos (t := t) h
  unfold gS
  split <;> omega
theorem gS_le {t b : Int} (h : b ≠ 0) : (gS t b).natAbs ≤ b.natAbs := by
  have := gcd_le (t := t) h
  unfold gS
  split <;> omega
theorem fdiv_exact {a g : Int} (h : g ∣ a) (hg : g ≠ 0) : a.fdiv g * g = a := by
  obtain ⟨c, rfl⟩ := h
  rw [Int.mul_comm g c, Int.mul_fdiv_cancel _ hg]
theorem gS_dvd_l (t b : Int) : gS t b ∣ t := by
  unfold gS
  split
  · rw [Int.zero_sub]
    exact Int.neg_dvd.mpr (Int.gcd_dvd_left ..)
  · exact Int.gcd_dvd_left ..
theorem gS_dvd_r (t b : Int) : gS t b ∣ b := by
  unfold gS
  split
  · rw [Int.zero_sub]
    exact Int.neg_dvd.mpr (Int.gcd_dvd_right ..)
  · exact Int.gcd_dvd_right ..
/-- what a ratio in lowest terms is -/
theorem lowR_spec {t b : Int} (h : b ≠ 0) : (lowR t b).1 * gS t b = t ∧ (lowR t b).2 * gS t b = b ∧ isR (lowR t b) = true := by
  have h1 := fdiv_exact (gS_dvd_l t b) (gS_ne (t := t) h)
  have h2 := fdiv_exact (gS_dvd_r t b) (gS_ne (t := t) h)
  refine ⟨h1, h2, ?_⟩
  unfold isR
  rw [Bool.and_eq_true, decide_eq_true_eq, decide_eq_true_eq]
  have g0 := gcd_pos (t := t) h
  constructor
  · show 0 < b.fdiv (gS t b)
    apply Classical.byContradiction
    intro z
    have z' : b.fdiv (gS t b) ≤ 0 := by omega
    unfold gS at h2 z'
    split at h2
    · rename_i c
      rw [if_pos c] at z'
      have : 0 ≤ b.fdiv (0 - ((Int.gcd t b : Nat) : Int)) * (0 - ((Int.gcd t b : Nat) : Int)) := Int.mul_nonneg_of_nonpos_of_nonpos z' (by omega)
      omega
    · rename_i c
      rw [if_neg c] at z'
      have : b.fdiv ((Int.gcd t b : Nat) : Int) * ((Int.gcd t b : Nat) : Int) ≤ 0 := Int.mul_nonpos_of_nonpos_of_nonneg z' (by omega)
      omega
  · have e : Int.gcd t b = Int.gcd (lowR t b).1 (lowR t b).2 * (gS t b).natAbs := by
      have : Int.gcd ((lowR t b).1 * gS t b) ((lowR t b).2 * gS t b) = Int.gcd (lowR t b).1 (lowR t b).2 * (gS t b).natAbs := Int.gcd_mul_right ..
      rw [← this]
      show Int.gcd t b = Int.gcd (t.fdiv (gS t b) * gS t b) (b.fdiv (gS t b) * gS t b)
      rw [h1, h2]
    have e2 : (gS t b).natAbs = Int.gcd t b := by
      unfold gS
      split <;> omega
    rw [e2] at e
    have e3 : 1 * Int.gcd t b = Int.gcd (lowR t b).1 (lowR t b).2 * Int.gcd t b := by rw [Nat.one_mul]; exact e
    exact (Nat.eq_of_mul_eq_mul_right g0 e3).symm
theorem lowR_le {t b : Int} (h : b ≠ 0) : (lowR t b).1.natAbs ≤ t.natAbs ∧ (lowR t b).2.natAbs ≤ b.natAbs := by
  obtain ⟨h1, h2, _⟩ := lowR_spec (t := t) h
  have g := gS_ne (t := t) h
  have e1 : (lowR t b).1.natAbs * (gS t b).natAbs = t.natAbs := by rw [← Int.natAbs_mul, h1]
  have e2 : (lowR t b).2.natAbs * (gS t b).natAbs = b.natAbs := by rw [← Int.natAbs_mul, h2]
  have g1 : 1 ≤ (gS t b).natAbs := by omega
  exact ⟨by rw [← e1]; exact Nat.le_mul_of_pos_right _ g1, by rw [← e2]; exact Nat.le_mul_of_pos_right _ g1⟩
/-! the pool of the laws about heights: digits of a cell, then numbers mixed -/
def PoolH (a b : Int) : Prop := 0 ≤ a ∧ 0 ≤ b ∧ b < 2147483647
theorem nat31 {i : Int} (h : 0 ≤ i) (h2 : i < 2147483647) : i.natAbs < 2 ^ 31 := by omega
theorem hpool_ok {P : D × Bool × List (List D) → Prop} (ns : List Int) (k : Int) (hk : 0 ≤ k) (hk2 : k ≤ 1000)
    (q : ∀ a b, PoolH a b → P (.lst [.int a, .int b], true, [])) : Ok (ev__law_pool [.scr ns, .int k]) P := by
  unfold ev__law_pool b__law_pool
  rw [w_def rfl]
  walk_at "evj"
  refine ⟨mul40 (by omega) (by omega) (by omega) (by omega), ?_⟩
  refine cut_seq (fun e => ∃ c : Int, e = [.fz (.scr ns), .fz (.int k), .fz (.int c), .no, .no]) ?_ ?_
  · walk_at "evj"
    refine ⟨fun h => ok_atI hk h fun b _ => ?_, fun _ => ⟨_, rfl⟩⟩
    walk_at "evj"
    exact ⟨_, rfl⟩
  rintro e ⟨c, rfl⟩
  walk_at "evj"
  refine cut_seq (fun e => ∃ f : Int, 0 ≤ f ∧ e = [.fz (.scr ns), .fz (.int k), .fz (.int c), .fz (.int f), .no]) ?_ ?_
  · walk_at "evj"
    exact ⟨by decide, fun _ => ⟨0, by decide, rfl⟩, fun _ => ⟨_, by split <;> omega, rfl⟩⟩
  rintro e ⟨f, hf, rfl⟩
  walk_at "evj"
  have h8 := fmod_nn (a := k) (b := 8) (by decide)
  refine ⟨modB_of (by decide), ok_atI h8.1 (by simp only [List.length_cons, List.length_nil]; omega) fun pr hp => ?_⟩
  have hp2 : ∃ p : Int, pr = .int p ∧ 1 ≤ p ∧ p ≤ 2147483647 := by
    have hm := List.mem_of_getElem? hp
    simp only [List.mem_cons, List.not_mem_nil, or_false] at hm
    rcases hm with rfl | rfl | rfl | rfl | rfl | rfl | rfl | rfl <;> exact ⟨_, rfl, by decide, by decide⟩
  obtain ⟨p, rfl, p1, p2⟩ := hp2
  walk_at "evj"
  have hc := fmod_nn (a := c) (b := p) (by omega)
  refine ⟨modB_of (by omega), mul40 (by omega) (by omega) (by omega) (by omega), mul40 (by omega) (by omega) (by omega) (by omega), modB_of (by decide), ?_⟩
  have hb := fmod_nn (a := c.fmod p * 69621 + 7919 * k + 13) (b := 2147483647) (by decide)
  exact q _ _ ⟨hf, hb.1, hb.2⟩
theorem htake_ok {P : D × Bool × List (List D) → Prop} (a b many : Int) (h : PoolH a b) (hm : 0 < many) (hm2 : many ≤ 10 ^ 40)
    (q : ∀ a' b' d, 0 ≤ d → d < many → PoolH a' b' → P (.int d, false, [[.int a', .int b']])) : Ok (ev__law_take [.lst [.int a, .int b], .int many]) P := by
  obtain ⟨h1, h2, h3⟩ := h
  unfold ev__law_take b__law_take
  rw [w_def rfl]
  walk_at "ev"
  refine ⟨fun c => ⟨modB_of (by omega), div40 hm hm2, ?_⟩, fun c => ⟨mul40 (by omega) (by omega) (by omega) (by omega), modB_of (by decide), ?_⟩⟩
  · have f := fmod_nn (a := a) hm
    exact q _ _ _ f.1 f.2 ⟨fdiv_nn h1 hm, h2, h3⟩
  · have f := fmod_nn (a := b * 48271 + 11) (b := 2147483647) (by decide)
    generalize (b * 48271 + 11).fmod 2147483647 = m at f
    have g := fmod_nn (a := (((m ^ 5).fmod 2147483629).fdiv 31)) hm
    exact ⟨powB_of (n := 5) (nat31 f.1 f.2) (by decide), modB_of (by decide), div40 (by decide) (by decide), modB_of (by omega), q _ _ _ g.1 g.2 ⟨h1, f.1, f.2⟩⟩
theorem hlow_eq (t b : Int) (h : b ≠ 0) (h2 : b.natAbs < 2 ^ 8999) : ev__law_low [.int t, .int b] = some (encR (lowR t b), false, []) := by
  have key : Ok (ev__law_low [.int t, .int b]) fun r => r = (encR (lowR t b), false, []) := by
    unfold ev__law_low b__law_low
    rw [w_def rfl]
    walk_at "ev"
    have ea : (if t < 0 then -t else t) = (t.natAbs : Nat) := by split <;> omega
    have eb : (if b < 0 then -b else b) = (b.natAbs : Nat) := by split <;> omega
    rw [ea, eb]
    refine while_inv (fun env => ∃ x y : Nat, env = [.fz (.int t), .fz (.int b), .fz (.int x), .fz (.int y)] ∧ Nat.gcd x y = Int.gcd t b) (fun env => match env with | [_, _, _, .fz (.int y)] => y.natAbs | _ => 0) ?_ _ _ ⟨t.natAbs, b.natAbs, rfl, rfl⟩ ?_
    · rintro env ⟨x, y, rfl, hg⟩
      have em : ((x : Int)).fmod (y : Int) = ((x % y : Nat) : Int) := by
        rw [Int.fmod_eq_emod_of_nonneg _ (Int.natCast_nonneg y)]
        rfl
      walk_at "ev"
      rw [em]
      refine ⟨fun hy => ⟨modB_of (by omega), ⟨y, x % y, rfl, ?_⟩, ?_⟩, fun hy => ?_⟩
      · rw [Nat.gcd_comm, ← hg, ← Nat.gcd_rec, Nat.gcd_comm]
      · have := Nat.mod_lt x (show 0 < y by omega)
        rw [Int.natAbs_natCast, Int.natAbs_natCast]
        exact this
      · have : y = 0 := by omega
        subst this
        rw [Nat.gcd_zero_right] at hg
        subst hg
        have hd : divB t (gS t b) = true := divB_of (gS_ne h) (Nat.lt_of_le_of_lt (gS_le h) h2)
        have hd2 : divB b (gS t b) = true := divB_of (gS_ne h) (Nat.lt_of_le_of_lt (gS_le h) h2)
        refine ⟨fun c => ?_, fun c => ?_⟩
        · have e : (-((Int.gcd t b : Nat) : Int)) = gS t b := by unfold gS; rw [if_pos c]; omega
          rw [e]
          exact ⟨hd, hd2, rfl⟩
        · have e : ((Int.gcd t b : Nat) : Int) = gS t b := by unfold gS; rw [if_neg c]
          rw [e]
          exact ⟨hd, hd2, rfl⟩
    · show b.natAbs < fuelE [.fz (.int t), .fz (.int b), .fz (.int t.natAbs), .fz (.int b.natAbs)]
      unfold fuelE
      simp only [List.map_cons, List.map_nil, sizeS, List.sum_cons, List.sum_nil]
      omega
  obtain ⟨r, e, h⟩ := key
  rw [e, h]
theorem isR_pos {p : R} (h : isR p = true) : 0 < p.2 ∧ Int.gcd p.1 p.2 = 1 := by
  unfold isR at h
  rw [Bool.and_eq_true, decide_eq_true_eq, decide_eq_true_eq] at h
  exact h
end Lw

namespace Lw
open PySem L2 Dv
/-! ratios reckoned: the program's and the law's own are one -/
def addR (p q : R) : R := lowR (p.1 * q.2 + q.1 * p.2) (p.2 * q.2)
def mulR (p q : R) : R := lowR (p.1 * q.1) (p.2 * q.2)
def Gd (n : Nat) (p : R) : Prop := isR p = true ∧ p.1.natAbs < 2 ^ n ∧ p.2.natAbs < 2 ^ n
theorem Gd.mono {m n : Nat} {p : R} (h : Gd m p) (k : m ≤ n) : Gd n p := ⟨h.1, Nat.lt_of_lt_of_le h.2.1 (Nat.pow_le_pow_right (by decide) k), Nat.lt_of_lt_of_le h.2.2 (Nat.pow_le_pow_right (by decide) k)⟩
theorem Gd.ne {n : Nat} {p : R} (h : Gd n p) : p.2 ≠ 0 := by
  have := (isR_pos h.1).1
  omega
theorem gd_nought {n : Nat} : Gd (n + 1) (0, 1) := ⟨rfl, Nat.pow_pos (by decide), Nat.one_lt_pow (by omega) (by decide)⟩
theorem mul_bits {i j : Int} {a b : Nat} (hi : i.natAbs < 2 ^ a) (hj : j.natAbs < 2 ^ b) : (i * j).natAbs < 2 ^ (a + b) := by
  rw [Int.natAbs_mul, Nat.pow_add]
  exact Nat.mul_lt_mul'' hi hj
theorem add_bits {i j : Int} {a : Nat} (hi : i.natAbs < 2 ^ a) (hj : j.natAbs < 2 ^ a) : (i + j).natAbs < 2 ^ (a + 1) := by
  rw [Nat.pow_succ]
  omega
theorem lowR_gd {t b : Int} {n : Nat} (h : b ≠ 0) (ht : t.natAbs < 2 ^ n) (hb : b.natAbs < 2 ^ n) : Gd n (lowR t b) :=
  ⟨(lowR_spec h).2.2, Nat.lt_of_le_of_lt (lowR_le h).1 ht, Nat.lt_of_le_of_lt (lowR_le h).2 hb⟩
theorem addR_gd {p q : R} {a b : Nat} (hp : Gd a p) (hq : Gd b q) : Gd (a + b + 1) (addR p q) := by
  have h2 := mul_bits hp.2.2 hq.2.2
  refine lowR_gd (Int.mul_ne_zero hp.ne hq.ne) (add_bits (mul_bits hp.2.1 hq.2.2) ?_) (Nat.lt_trans h2 (Nat.pow_lt_pow_right (by decide) (by omega)))
  have := mul_bits hq.2.1 hp.2.2
  rw [Nat.add_comm] at this
  exact this
theorem mulR_gd {p q : R} {a b : Nat} (hp : Gd a p) (hq : Gd b q) : Gd (a + b) (mulR p q) :=
  lowR_gd (Int.mul_ne_zero hp.ne hq.ne) (mul_bits hp.2.1 hq.2.1) (mul_bits hp.2.2 hq.2.2)
theorem bits_8999 {n a : Nat} (h : n < 2 ^ a) (ha : a ≤ 8999) : n < 2 ^ 8999 := Nat.lt_of_lt_of_le h (Nat.pow_le_pow_right (by decide) ha)
/-! ratios reckoned by the law, its second way -/
end Lw

namespace Lw
open PySem L2 Dv
/-! ratios as rationals -/
def rp (q : Rat) : R := (q.num, (q.den : Int))
def encQ (q : Rat) : D := encR (rp q)
theorem encQ_map (xs : List Rat) : (xs.map rp).map encR = xs.map encQ := by
  rw [List.map_map]
  rfl
theorem rp_isR (q : Rat) : isR (rp q) = true := by
  unfold isR rp
  rw [Bool.and_eq_true, decide_eq_true_eq, decide_eq_true_eq]
  have := q.den_nz
  exact ⟨by dsimp only; omega, q.reduced⟩
theorem rp_isRs (xs : List Rat) : ∀ p, p ∈ xs.map rp → isR p = true := fun p hp => by
  obtain ⟨q, _, rfl⟩ := List.mem_map.mp hp
  exact rp_isR q
def qv (p : R) : Rat := (p.1 : Rat) / (p.2 : Rat)
theorem rp_qv {p : R} (h : isR p = true) : rp (qv p) = p := by
  obtain ⟨h1, h2⟩ := isR_pos h
  have e : ((p.2.toNat : Nat) : Int) = p.2 := by omega
  have hc : p.1.natAbs.Coprime p.2.toNat := by
    have : Int.gcd p.1 ((p.2.toNat : Nat) : Int) = 1 := by rw [e]; exact h2
    exact this
  have hn := num_den ⟨p.1, p.2.toNat, by omega, hc⟩
  dsimp only at hn
  have hz : (p.2 : Rat) ≠ 0 := fun z => by
    have := Rat.intCast_inj.mp (z.trans (show (0 : Rat) = ((0 : Int) : Rat) from rfl))
    omega
  rw [show ((p.2.toNat : Nat) : Rat) = (p.2 : Rat) from by rw [← Rat.intCast_natCast, e]] at hn
  have : qv p = ⟨p.1, p.2.toNat, by omega, hc⟩ := by
    unfold qv
    rw [← hn]
    grind
  rw [this]
  unfold rp
  dsimp only
  rw [e]
theorem cast_ne {b : Int} (h : b ≠ 0) : (b : Rat) ≠ 0 := fun z => h (Rat.intCast_inj.mp (z.trans (show (0 : Rat) = ((0 : Int) : Rat) from rfl)))
theorem lowR_q {t b : Int} (h : b ≠ 0) : lowR t b = rp ((t : Rat) / (b : Rat)) := by
  obtain ⟨h1, h2, h3⟩ := lowR_spec (t := t) h
  rw [← rp_qv h3]
  congr 1
  unfold qv
  have g := cast_ne (gS_ne (t := t) h)
  have l2 : ((lowR t b).2 : Rat) ≠ 0 := cast_ne (by have := (isR_pos h3).1; omega)
  have e1 : ((lowR t b).1 : Rat) * (gS t b : Rat) = (t : Rat) := by rw [← Rat.intCast_mul, h1]
  have e2 : ((lowR t b).2 : Rat) * (gS t b : Rat) = (b : Rat) := by rw [← Rat.intCast_mul, h2]
  rw [← e1, ← e2]
  grind
theorem dq (q : Rat) : ((q.den : Nat) : Rat) ≠ 0 := den_ne q
theorem qd (q : Rat) : q * (q.den : Nat) = q.num := num_den q
theorem den_nzI (q : Rat) : ((q.den : Nat) : Int) ≠ 0 := by
  have := q.den_nz
  omega
theorem addR_q (p q : Rat) : addR (rp p) (rp q) = rp (p + q) := by
  unfold addR rp
  rw [lowR_q (Int.mul_ne_zero (den_nzI p) (den_nzI q))]
  unfold rp
  have : (((p.num * (q.den : Int) + q.num * (p.den : Int) : Int) : Rat) / (((p.den : Int) * (q.den : Int) : Int) : Rat)) = p + q := by
    rw [Rat.intCast_add, Rat.intCast_mul, Rat.intCast_mul, Rat.intCast_mul, Rat.intCast_natCast, Rat.intCast_natCast, ← qd p, ← qd q]
    have := dq p
    have := dq q
    grind
  dsimp only
  rw [this]
theorem mulR_q (p q : Rat) : mulR (rp p) (rp q) = rp (p * q) := by
  unfold mulR rp
  rw [lowR_q (Int.mul_ne_zero (den_nzI p) (den_nzI q))]
  unfold rp
  have : (((p.num * q.num : Int) : Rat) / (((p.den : Int) * (q.den : Int) : Int) : Rat)) = p * q := by
    rw [Rat.intCast_mul, Rat.intCast_mul, Rat.intCast_natCast, Rat.intCast_natCast, ← qd p, ← qd q]
    have := dq p
    have := dq q
    grind
  dsimp only
  rw [this]
def Bd (n : Nat) (q : Rat) : Prop := Gd n (rp q)
theorem Bd.of {n : Nat} {q : Rat} (h1 : q.num.natAbs < 2 ^ n) (h2 : q.den < 2 ^ n) : Bd n q := ⟨rp_isR q, h1, h2⟩
theorem Bd.mono {m n : Nat} {q : Rat} (h : Bd m q) (k : m ≤ n) : Bd n q := Gd.mono h k
theorem Sz_bd {M B n : Nat} {q : Rat} (hM : 0 < M) (h1 : M < 2 ^ n) (h2 : B < 2 ^ n) (h : Sz M B q) : Bd n q := by
  obtain ⟨h3, h4⟩ := h.le hM
  exact Bd.of (by omega) (by omega)
theorem encQ_0 : D.tup [.int 0, .int 1] = encQ 0 := rfl
theorem encQ_1 : D.tup [.int 1, .int 1] = encQ 1 := rfl
theorem encQ_neg (q : Rat) : D.tup [.int (0 - q.num), .int (q.den : Int)] = encQ (-q) := by
  unfold encQ encR rp
  rw [Rat.neg_num, Rat.neg_den, Int.zero_sub]
theorem encQ_int (i : Int) : D.tup [.int i, .int 1] = encQ (i : Rat) := by
  unfold encQ encR rp
  rw [Rat.num_intCast, Rat.den_intCast]
  rfl
theorem ixQ0 (q : Rat) : gIx (encQ q) (.int 0) = some (.val (.int q.num)) := rfl
theorem ixQ1 (q : Rat) : gIx (encQ q) (.int 1) = some (.val (.int (q.den : Int))) := rfl
theorem num_zero (q : Rat) : q.num = 0 ↔ q = 0 := Rat.num_eq_zero
theorem encQ_inj {p q : Rat} (h : rp p = rp q) : p = q := by
  unfold rp at h
  have h1 := congrArg Prod.fst h
  have h2 := congrArg Prod.snd h
  dsimp only at h1 h2
  exact Rat.ext h1 (by omega)
theorem rp_eq {p q : Rat} : rp p = rp q ↔ p = q := ⟨encQ_inj, fun h => by rw [h]⟩
theorem map_rp_eq {xs ys : List Rat} : xs.map rp = ys.map rp ↔ xs = ys := by
  constructor
  · intro h
    induction xs generalizing ys with
    | nil => cases ys with
      | nil => rfl
      | cons y ys => cases h
    | cons x xs ih => cases ys with
      | nil => cases h
      | cons y ys =>
        rw [List.map_cons, List.map_cons] at h
        injection h with h1 h2
        rw [encQ_inj h1, ih h2]
  · intro h
    rw [h]
theorem gEq_Q (p q : Rat) : gEq (encQ p) (encQ q) = some (.val (.bl (decide (p = q)))) := (gEq_R _ _).trans (by rw [decide_eq_decide.mpr rp_eq])
theorem gNe_Q (p q : Rat) : gNe (encQ p) (encQ q) = some (.val (.bl (!decide (p = q)))) := (gNe_of (shp_of (shp_R _) (by decide)) (shp_of (shp_R _) (by decide)) (eqD_R _ _)).trans (by rw [decide_eq_decide.mpr rp_eq])
theorem gEq_Qs (xs ys : List Rat) : gEq (.lst (xs.map encQ)) (.lst (ys.map encQ)) = some (.val (.bl (decide (xs = ys)))) := by
  rw [← encQ_map, ← encQ_map, gEq_Lm, decide_eq_decide.mpr map_rp_eq]
theorem gNe_Qs (xs ys : List Rat) : gNe (.lst (xs.map encQ)) (.lst (ys.map encQ)) = some (.val (.bl (!decide (xs = ys)))) := by
  rw [← encQ_map, ← encQ_map, gNe_Lm, decide_eq_decide.mpr map_rp_eq]
theorem gEq_Qn (xs : List Rat) : gEq (.lst (xs.map encQ)) (.lst []) = some (.val (.bl (decide (xs = [])))) := gEq_Qs xs []
theorem gNe_Qn (xs : List Rat) : gNe (.lst (xs.map encQ)) (.lst []) = some (.val (.bl (!decide (xs = [])))) := gNe_Qs xs []
theorem Bd.add {p q : Rat} {a b : Nat} (hp : Bd a p) (hq : Bd b q) : Bd (a + b + 1) (p + q) := by
  unfold Bd
  rw [← addR_q]
  exact addR_gd hp hq
theorem Bd.mul {p q : Rat} {a b : Nat} (hp : Bd a p) (hq : Bd b q) : Bd (a + b) (p * q) := by
  unfold Bd
  rw [← mulR_q]
  exact mulR_gd hp hq
theorem Bd.neg {q : Rat} {a : Nat} (h : Bd a q) : Bd a (-q) := by
  refine Bd.of ?_ ?_
  · rw [Rat.neg_num, Int.natAbs_neg]
    exact h.2.1
  · rw [Rat.neg_den]
    exact h.2.2
theorem bd_0 {n : Nat} : Bd (n + 1) 0 := gd_nought
/-- a given ratio is a rational -/
theorem isR_q {p : R} (h : isR p = true) : ∃ q : Rat, encR p = encQ q ∧ rp q = p := ⟨qv p, by unfold encQ; rw [rp_qv h], rp_qv h⟩
theorem isRs_q {xs : List R} (h : ∀ p, p ∈ xs → isR p = true) : (xs.map qv).map rp = xs := by
  rw [List.map_map]
  induction xs with
  | nil => rfl
  | cons x xs ih =>
    rw [List.map_cons, ih fun p hp => h p (List.mem_cons_of_mem _ hp)]
    show rp (qv x) :: xs = _
    rw [rp_qv (h x List.mem_cons_self)]
end Lw

namespace Lw
open PySem L2 Dv
/-! sorted pairs, each once -/
theorem gNe_R (p q : R) : gNe (encR p) (encR q) = some (.val (.bl (!decide (p = q)))) := gNe_of (shp_of (shp_R p) (by decide)) (shp_of (shp_R q) (by decide)) (eqD_R p q)
theorem insP_len (p : R) : ∀ l : List R, (insP p l).length ≤ l.length + 1
  | [] => Nat.le_refl _
  | q :: l => by
    unfold insP
    split
    · exact Nat.le_succ _
    · split
      · exact Nat.le_refl _
      · have := insP_len p l
        simp only [List.length_cons]
        omega
theorem srtP_len : ∀ l : List R, (srtP l).length ≤ l.length
  | [] => Nat.le_refl _
  | p :: l => by
    have h1 := insP_len p (srtP l)
    have h2 := srtP_len l
    show (insP p (srtP l)).length ≤ l.length + 1
    omega
/-! terms and sums -/
abbrev Trm := Int × Int × R
def encT (t : Trm) : D := .tup [.int t.1, .int t.2.1, encR t.2.2]
def keyT (t : Trm) : R := (t.1, t.2.1)
def totT (k : R) (ts : List Trm) : R := ts.foldl (fun acc t => if keyT t = k then addR acc t.2.2 else acc) (0, 1)
def rowT (ts : List Trm) (k : R) : List Trm := if (totT k ts).1 = 0 then [] else [(k.1, k.2, totT k ts)]
def gatherT (ts : List Trm) : List Trm := (srtP (ts.map keyT)).flatMap (rowT ts)
theorem gd_one {n : Nat} : Gd (n + 1) (1, 1) := ⟨rfl, Nat.one_lt_pow (by omega) (by decide), Nat.one_lt_pow (by omega) (by decide)⟩
theorem totT_gd {k : R} {m : Nat} : ∀ (ts : List Trm) (acc : R) (a : Nat), Gd a acc → (∀ t, t ∈ ts → Gd m t.2.2) → Gd (a + ts.length * (m + 1)) (ts.foldl (fun acc t => if keyT t = k then addR acc t.2.2 else acc) acc)
  | [], acc, a, h, _ => by simpa using h
  | t :: ts, acc, a, h, ht => by
    rw [List.foldl_cons]
    have e : a + (t :: ts).length * (m + 1) = (a + m + 1) + ts.length * (m + 1) := by
      rw [List.length_cons, Nat.add_mul]
      omega
    rw [e]
    refine totT_gd ts _ _ ?_ fun u hu => ht u (List.mem_cons_of_mem _ hu)
    split
    · exact addR_gd h (ht t List.mem_cons_self)
    · exact h.mono (by omega)
theorem gather_gd {ts : List Trm} {m : Nat} (h : ∀ t, t ∈ ts → Gd m t.2.2) : ∀ u, u ∈ gatherT ts → Gd (1 + ts.length * (m + 1)) u.2.2 ∧ u.2.2.1 ≠ 0 ∧ ∃ t, t ∈ ts ∧ keyT t = keyT u := by
  intro u hu
  obtain ⟨k, hk, hu⟩ := List.mem_flatMap.mp hu
  unfold rowT at hu
  split at hu
  · cases hu
  · rename_i h0
    rw [List.mem_singleton.mp hu]
    refine ⟨totT_gd ts _ 1 gd_nought h, h0, ?_⟩
    obtain ⟨t, ht, e⟩ := List.mem_map.mp (mem_srtP.mp hk)
    exact ⟨t, ht, e⟩
theorem take_foldl {α β : Type} (f : β → α → β) (b : β) {xs : List α} {i : Nat} {x : α} (h : xs[i]? = some x) : (xs.take (i + 1)).foldl f b = f ((xs.take i).foldl f b) x := by
  rw [List.take_succ, h, List.foldl_append]
  rfl
end Lw

namespace Lw
open PySem L2 Dv
/-! drawn terms and sums -/
/-- a drawn term -/
def TrmOk (n : Nat) (far : Int) (t : Trm) : Prop := -far ≤ t.1 ∧ t.1 ≤ far ∧ -far ≤ t.2.1 ∧ t.2.1 ≤ far ∧ Gd n t.2.2 ∧ t.2.2.1 ≠ 0
theorem rowT_len (ts : List Trm) (k : R) : (rowT ts k).length ≤ 1 := by
  unfold rowT
  split
  · exact Nat.zero_le _
  · exact Nat.le_refl _
theorem flat_len {α β : Type} {f : α → List β} (h : ∀ x, (f x).length ≤ 1) : ∀ l : List α, (l.flatMap f).length ≤ l.length
  | [] => Nat.le_refl _
  | x :: l => by
    rw [List.flatMap_cons, List.length_append, List.length_cons]
    have := h x
    have := flat_len h l
    omega
theorem gather_len (ts : List Trm) : (gatherT ts).length ≤ ts.length := by
  have h1 := flat_len (rowT_len ts) (srtP (ts.map keyT))
  have h2 := srtP_len (ts.map keyT)
  rw [List.length_map] at h2
  exact Nat.le_trans h1 h2
theorem gather_ok {ts : List Trm} {far : Int} {n m : Nat} (h : ∀ t, t ∈ ts → TrmOk n far t) (hm : 1 + ts.length * (n + 1) ≤ m) : ∀ u, u ∈ gatherT ts → TrmOk m far u := by
  intro u hu
  obtain ⟨g, hn, t, ht, ek⟩ := gather_gd (fun t ht => (h t ht).2.2.2.2.1) u hu
  obtain ⟨h1, h2, h3, h4, _⟩ := h t ht
  unfold keyT at ek
  rw [Prod.mk.injEq] at ek
  rw [ek.1] at h1 h2
  rw [ek.2] at h3 h4
  exact ⟨h1, h2, h3, h4, g.mono hm, hn⟩
theorem shp_T (t : Trm) : Shp 2 (encT t) := shp_tup fun d h => by
  simp only [List.mem_cons, List.not_mem_nil, or_false] at h
  rcases h with rfl | rfl | rfl
  · exact Shp.mono shp_int (by decide)
  · exact Shp.mono shp_int (by decide)
  · exact shp_R _
theorem eqD_T (a b : Trm) : eqD (encT a) (encT b) = decide (a = b) := by
  unfold encT
  rw [eqD_tup, eqA_cons, eqA_cons, eqA_cons, eqA_nil, eqD_R, eqD_int, eqD_int, Bool.and_true, ← Bool.decide_and, ← Bool.decide_and, decide_eq_decide]
  exact ⟨fun h => Prod.ext h.1 (Prod.ext h.2.1 h.2.2), fun h => by rw [h]; exact ⟨rfl, rfl, rfl⟩⟩
theorem shp_Ts (xs : List Trm) : shp (.lst (xs.map encT)) = true := shp_of (shp_lst (k := 2) fun d h => by
  obtain ⟨s, _, rfl⟩ := List.mem_map.mp h
  exact shp_T s) (by decide)
theorem gNe_Tm (xs ys : List Trm) : gNe (.lst (xs.map encT)) (.lst (ys.map encT)) = some (.val (.bl (!decide (xs = ys)))) := gNe_of (shp_Ts xs) (shp_Ts ys) (by rw [eqD_lst, eqA_map eqD_T])
theorem gEq_Tm (xs ys : List Trm) : gEq (.lst (xs.map encT)) (.lst (ys.map encT)) = some (.val (.bl (decide (xs = ys)))) := gEq_of (shp_Ts xs) (shp_Ts ys) (by rw [eqD_lst, eqA_map eqD_T])
end Lw

namespace Lw
open PySem L2 Dv
/-! the program's own gathering, by a dict -/
def stepD (m : List (R × R)) (t : Trm) : List (R × R) := mPut m (keyT t) (addR ((mVal m (keyT t)).getD (0, 1)) t.2.2)
def dicT (ts : List Trm) : List (R × R) := ts.foldl stepD []
def stepT (k : R) (acc : R) (t : Trm) : R := if keyT t = k then addR acc t.2.2 else acc
theorem dic_val (k : R) : ∀ (ts : List Trm) (m : List (R × R)), (k ∈ ts.map keyT ∨ (mVal m k).isSome = true) → mVal (ts.foldl stepD m) k = some (ts.foldl (stepT k) ((mVal m k).getD (0, 1)))
  | [], m, h => by
    have h2 : (mVal m k).isSome = true := h.elim (fun z => by cases z) id
    cases e : mVal m k with
    | none => rw [e] at h2; cases h2
    | some x =>
      show mVal m k = _
      rw [e]
      rfl
  | t :: ts, m, h => by
    rw [List.foldl_cons, List.foldl_cons]
    have e : mVal (stepD m t) k = if k = keyT t then some (addR ((mVal m (keyT t)).getD (0, 1)) t.2.2) else mVal m k := mVal_put _ _ _ _
    by_cases c : k = keyT t
    · rw [if_pos c] at e
      rw [dic_val k ts _ (.inr (by rw [e]; rfl)), e]
      unfold stepT
      rw [if_pos c.symm, c]
      rfl
    · rw [if_neg c] at e
      rw [dic_val k ts _ (by
        rw [e]
        rcases h with h | h
        · exact .inl ((List.mem_cons.mp h).resolve_left c)
        · exact .inr h), e]
      unfold stepT
      rw [if_neg (fun z => c z.symm)]
theorem dic_keys (j : R) : ∀ (ts : List Trm) (m : List (R × R)), j ∈ (ts.foldl stepD m).map (·.1) ↔ j ∈ ts.map keyT ∨ j ∈ m.map (·.1)
  | [], m => by simp
  | t :: ts, m => by
    rw [List.foldl_cons, dic_keys j ts]
    unfold stepD
    rw [mKeys_put, List.map_cons, List.mem_cons]
    constructor
    · rintro (h | h | h)
      · exact .inl (.inr h)
      · exact .inl (.inl h)
      · exact .inr h
    · rintro ((h | h) | h)
      · exact .inr (.inl h)
      · exact .inl h
      · exact .inr (.inr h)
theorem dic_len : ∀ (ts : List Trm) (m : List (R × R)), (ts.foldl stepD m).length ≤ m.length + ts.length
  | [], m => by simp
  | t :: ts, m => by
    rw [List.foldl_cons]
    have h1 := dic_len ts (stepD m t)
    have h2 : (stepD m t).length ≤ m.length + 1 := mLen_put _ _ _
    rw [List.length_cons]
    omega
theorem zero_iff {p : R} (h : isR p = true) : p = (0, 1) ↔ p.1 = 0 := by
  obtain ⟨h1, h2⟩ := isR_pos h
  refine ⟨fun z => by rw [z], fun z => ?_⟩
  rw [z, Int.gcd_zero_left] at h2
  exact Prod.ext z (by show p.2 = 1; omega)
theorem gd_acc {k : R} {m j : Nat} {ts : List Trm} (h : ∀ t, t ∈ ts → Gd m t.2.2) (hj : j ≤ ts.length) : Gd (1 + j * (m + 1)) (totT k (ts.take j)) := by
  have := totT_gd (k := k) (ts.take j) (0, 1) 1 gd_nought fun u hu => h u (List.mem_of_mem_take hu)
  rw [List.length_take, Nat.min_eq_left hj] at this
  exact this
theorem gd_dic {k : R} {m j : Nat} {ts : List Trm} (h : ∀ t, t ∈ ts → Gd m t.2.2) (hj : j ≤ ts.length) : Gd (1 + j * (m + 1)) ((mVal (dicT (ts.take j)) k).getD (0, 1)) := by
  by_cases c : k ∈ (ts.take j).map keyT
  · unfold dicT
    rw [dic_val k _ [] (.inl c)]
    exact gd_acc h hj
  · have : mVal (dicT (ts.take j)) k = none := by
      cases e : mVal (dicT (ts.take j)) k with
      | none => rfl
      | some x =>
        exfalso
        unfold mVal at e
        obtain ⟨p, hp, _⟩ := Option.map_eq_some_iff.mp e
        have m1 := List.mem_of_find?_eq_some hp
        have m2 : p.1 = k := by simpa using List.find?_some hp
        have := (dic_keys k (ts.take j) []).mp (List.mem_map.mpr ⟨p, m1, m2⟩)
        rcases this with z | z
        · exact c z
        · cases z
    rw [this]
    exact (gd_nought (n := 0)).mono (by omega)
/-! sums as they ought to be -/
theorem gather_keys (ts : List Trm) : (gatherT ts).map keyT = (srtP (ts.map keyT)).filter fun k => decide ((totT k ts).1 ≠ 0) := by
  unfold gatherT
  generalize srtP (ts.map keyT) = ks
  induction ks with
  | nil => rfl
  | cons k ks ih =>
    rw [List.flatMap_cons, List.map_append, ih, List.filter_cons]
    unfold rowT
    by_cases c : (totT k ts).1 = 0
    · rw [if_pos c, if_neg (by simpa using c)]
      rfl
    · rw [if_neg c, if_pos (by simpa using c)]
      rfl
theorem gather_str (ts : List Trm) : StrP ((gatherT ts).map keyT) := by
  rw [gather_keys]
  exact (str_srtP _).filter _
theorem srtP_self {l : List R} (h : StrP l) : srtP l = l := str_uniq (str_srtP _) h fun x => mem_srtP
/-- what a sum is -/
def SumOk (ts : List Trm) : Prop := (∀ t, t ∈ ts → isR t.2.2 = true ∧ t.2.2.1 ≠ 0) ∧ StrP (ts.map keyT)
theorem gather_sum {ts : List Trm} {m : Nat} (h : ∀ t, t ∈ ts → Gd m t.2.2) : SumOk (gatherT ts) := ⟨fun u hu => ⟨(gather_gd h u hu).1.1, (gather_gd h u hu).2.1⟩, gather_str ts⟩
/-! the order of the terms does not matter -/
def totQ (k : R) (ts : List Trm) : Rat := (ts.map fun t => if keyT t = k then qv t.2.2 else 0).foldr (· + ·) 0
theorem tot_q (k : R) : ∀ (ts : List Trm) (a : Rat), (∀ t, t ∈ ts → isR t.2.2 = true) → ts.foldl (fun acc t => if keyT t = k then addR acc t.2.2 else acc) (rp a) = rp (a + totQ k ts)
  | [], a, _ => by
    show rp a = rp (a + 0)
    rw [Rat.add_zero]
  | t :: ts, a, h => by
    rw [List.foldl_cons]
    have h1 := h t List.mem_cons_self
    have h2 : ∀ u, u ∈ ts → isR u.2.2 = true := fun u hu => h u (List.mem_cons_of_mem _ hu)
    have e : totQ k (t :: ts) = (if keyT t = k then qv t.2.2 else 0) + totQ k ts := rfl
    rw [e]
    by_cases c : keyT t = k
    · rw [if_pos c, if_pos c]
      have : addR (rp a) t.2.2 = rp (a + qv t.2.2) := by
        rw [← addR_q, rp_qv h1]
      rw [this, tot_q k ts _ h2, Rat.add_assoc]
    · rw [if_neg c, if_neg c, tot_q k ts _ h2, Rat.zero_add]
theorem totQ_app (k : R) : ∀ (xs ys : List Trm), totQ k (xs ++ ys) = totQ k xs + totQ k ys
  | [], ys => by
    show totQ k ys = 0 + totQ k ys
    rw [Rat.zero_add]
  | x :: xs, ys => by
    show (if keyT x = k then qv x.2.2 else 0) + totQ k (xs ++ ys) = ((if keyT x = k then qv x.2.2 else 0) + totQ k xs) + totQ k ys
    rw [totQ_app k xs ys, Rat.add_assoc]
theorem totQ_rev (k : R) : ∀ (xs : List Trm), totQ k xs.reverse = totQ k xs
  | [] => rfl
  | x :: xs => by
    rw [List.reverse_cons, totQ_app, totQ_rev k xs]
    show totQ k xs + ((if keyT x = k then qv x.2.2 else 0) + 0) = (if keyT x = k then qv x.2.2 else 0) + totQ k xs
    rw [Rat.add_zero, Rat.add_comm]
theorem totT_q {k : R} {ts : List Trm} (h : ∀ t, t ∈ ts → isR t.2.2 = true) : totT k ts = rp (totQ k ts) := by
  have := tot_q k ts 0 h
  rw [Rat.zero_add] at this
  exact this
theorem gather_same {xs ys : List Trm} (hx : ∀ t, t ∈ xs → isR t.2.2 = true) (hy : ∀ t, t ∈ ys → isR t.2.2 = true) (hk : ∀ k, k ∈ xs.map keyT ↔ k ∈ ys.map keyT) (hq : ∀ k, totQ k xs = totQ k ys) : gatherT xs = gatherT ys := by
  unfold gatherT
  have e1 : srtP (xs.map keyT) = srtP (ys.map keyT) := str_uniq (str_srtP _) (str_srtP _) fun x => by rw [mem_srtP, mem_srtP, hk]
  have e2 : rowT xs = rowT ys := by
    funext k
    unfold rowT
    rw [totT_q hx, totT_q hy, hq]
  rw [e1, e2]
theorem gather_rev {ts : List Trm} (h : ∀ t, t ∈ ts → isR t.2.2 = true) : gatherT ts.reverse = gatherT ts :=
  gather_same (fun t ht => h t (List.mem_reverse.mp ht)) h (fun k => by rw [List.map_reverse, List.mem_reverse]) fun k => totQ_rev k ts
end Lw

namespace Lw
open PySem L2 Dv
/-! sums as dicts, the law's way -/
def dctE (m : List (R × R)) : D := .dct ((encK encR m).map (·.1)) ((encK encR m).map (·.2))
theorem zip_fs {α β : Type} : ∀ l : List (α × β), (l.map (·.1)).zip (l.map (·.2)) = l
  | [] => rfl
  | p :: l => by
    rw [List.map_cons, List.map_cons, List.zip_cons_cons, zip_fs l]
theorem dctE_zip (m : List (R × R)) : ((encK encR m).map (·.1)).zip ((encK encR m).map (·.2)) = encK encR m := zip_fs _
/-- what is told of a dict -/
def toldR (m : List (R × R)) (k : R) : List Trm := match mVal m k with
  | some r => if r.1 = 0 then [] else [(k.1, k.2, r)]
  | none => []
def toldT (m : List (R × R)) : List Trm := (srtP (m.map (·.1))).flatMap (toldR m)
theorem toldR_len (m : List (R × R)) (k : R) : (toldR m k).length ≤ 1 := by
  unfold toldR
  split
  · split
    · exact Nat.zero_le _
    · exact Nat.le_refl _
  · exact Nat.zero_le _
theorem toldT_len (m : List (R × R)) : (toldT m).length ≤ m.length := by
  have h1 := flat_len (toldR_len m) (srtP (m.map (·.1)))
  have h2 := srtP_len (m.map (·.1))
  rw [List.length_map] at h2
  exact Nat.le_trans h1 h2
theorem gDSortF_E {m : List (R × R)} (h : m.length ≤ 100000) : gDSortF [dctE m] = some (.new ((srtP (m.map (·.1))).map pD)) := by
  show (pairK (((encK encR m).map (·.1)).zip ((encK encR m).map (·.2)))).bind _ = _
  rw [dctE_zip, pairK_enc]
  show (if (encK encR m).length ≤ 1000000 then _ else none) = _
  rw [if_pos (by show (m.map _).length ≤ _; rw [List.length_map]; omega)]
theorem gDIx_E (m : List (R × R)) (x y : Int) : gDIx (dctE m) (.nt [.int x, .int y]) = ((mVal m (x, y)).map encR).bind fun d => some (.val d) := by
  show (kVal (((encK encR m).map (·.1)).zip ((encK encR m).map (·.2))) [x, y]).bind _ = _
  rw [dctE_zip, kVal_enc]
theorem mVal_some {m : List (R × R)} {k : R} (h : k ∈ m.map (·.1)) : ∃ r, mVal m k = some r ∧ (k, r) ∈ m := by
  obtain ⟨p, hp, rfl⟩ := List.mem_map.mp h
  cases e : m.find? fun q => decide (q.1 = p.1) with
  | none =>
    have := List.find?_eq_none.mp e p hp
    simp at this
  | some q =>
    refine ⟨q.2, by unfold mVal; rw [e]; rfl, ?_⟩
    have e2 : q.1 = p.1 := by simpa using List.find?_some e
    rw [← e2]
    exact List.mem_of_find?_eq_some e
theorem told_eq {m : List (R × R)} (h : m.length ≤ 9000) : ev__law_told [dctE m] = some (.lst ((toldT m).map encT), true, []) := by
  have key : Ok (ev__law_told [dctE m]) fun r => r = (.lst ((toldT m).map encT), true, []) := by
    unfold ev__law_told b__law_told
    rw [w_def rfl]
    walk_at "ev"
    refine ok_eq (gDSortF_E (by omega)) ?_
    walk_at "ev"
    have ks := srtP_len (m.map (·.1))
    rw [List.length_map] at ks
    have vk : ∀ k, k ∈ srtP (m.map (·.1)) → ∃ r, mVal m k = some r := fun k hk => by
      obtain ⟨r, e, _⟩ := mVal_some (mem_srtP.mp hk)
      exact ⟨r, e⟩
    unfold toldT
    generalize srtP (m.map (·.1)) = kk at ks vk
    refine lc_inv (fun j acc env => acc = ((kk.take j).flatMap (toldR m)).map encT ∧ env = [.fz (dctE m), .no, .no]) _ 0 [] _ ⟨rfl, rfl⟩ (fun j d acc env hd hi => ?_) fun out env hi => ?_
    · obtain ⟨rfl, rfl⟩ := hi
      rw [Nat.zero_add]
      rw [List.getElem?_map] at hd
      obtain ⟨k, hk, rfl⟩ := Option.map_eq_some_iff.mp hd
      obtain ⟨r, er⟩ := vk k (List.mem_of_getElem? hk)
      have et : (kk.take (j + 1)).flatMap (toldR m) = (kk.take j).flatMap (toldR m) ++ toldR m k := by
        rw [List.take_succ, hk, List.flatMap_append]
        simp
      have e1 : gDIx (dctE m) (.nt [.int k.1, .int k.2]) = some (.val (encR r)) := by
        rw [gDIx_E]
        show ((mVal m k).map encR).bind _ = _
        rw [er]
        rfl
      rw [et]
      generalize dctE m = dd at e1
      show Ok (gfTup 2 _ (pD k) _) _
      unfold pD
      rw [show encR r = D.tup [.int r.1, .int r.2] from rfl] at e1
      have er2 : toldR m k = if r.1 = 0 then [] else [(k.1, k.2, r)] := by
        unfold toldR
        rw [er]
      walk_at "ev"
      refine ok_eq e1 ?_
      walk_at "ev"
      refine ⟨fun c => ok_eq e1 ?_, fun c => ?_⟩
      · walk_at "ev"
        rw [er2, if_neg c, List.map_append]
        rfl
      · rw [er2, if_pos c, List.append_nil]
    · obtain ⟨e, rfl⟩ := hi
      rw [Nat.zero_add, List.length_map, List.take_length, List.nil_append] at e
      subst e
      walk_at "ev"
      have := flat_len (toldR_len m) kk
      omega
  obtain ⟨r, e, h⟩ := key
  rw [e, h]
/-! ### what is told of terms gathered -/
theorem toldT_dic {ts : List Trm} : toldT (dicT ts) = gatherT ts := by
  have ek : srtP ((dicT ts).map (·.1)) = srtP (ts.map keyT) := str_uniq (str_srtP _) (str_srtP _) fun x => by
    rw [mem_srtP, mem_srtP]
    show x ∈ (ts.foldl stepD []).map (·.1) ↔ _
    rw [dic_keys x ts []]
    simp
  unfold toldT gatherT
  rw [ek]
  have : ∀ k, k ∈ srtP (ts.map keyT) → toldR (dicT ts) k = rowT ts k := fun k hk => by
    have e : mVal (dicT ts) k = some (totT k ts) := dic_val k ts [] (.inl (mem_srtP.mp hk))
    unfold toldR rowT
    rw [e]
  generalize srtP (ts.map keyT) = l at this
  induction l with
  | nil => rfl
  | cons k l ih => rw [List.flatMap_cons, List.flatMap_cons, this k List.mem_cons_self, ih fun j hj => this j (List.mem_cons_of_mem _ hj)]
end Lw

namespace Lw
open PySem L2 Dv
/-! drawn numbers and sums, the law's second way -/
theorem low_ne {t b : Int} (hb : 0 < b) (ht : t ≠ 0) : (lowR t b).1 ≠ 0 := by
  have g := gcd_pos (t := t) (b := b) (by omega)
  have e := fdiv_exact (gS_dvd_l t b) (gS_ne (by omega))
  intro z
  have z' : t.fdiv (gS t b) = 0 := z
  rw [z', Int.zero_mul] at e
  exact ht e.symm
theorem num68_ok {P : D × Bool × List (List D) → Prop} (a b : Int) (h : PoolH a b) (q : ∀ a' b' p, Gd 18 p → p.1 ≠ 0 → PoolH a' b' → P (encR p, false, [[.int a', .int b']])) : Ok (ev__law_number [.lst [.int a, .int b]]) P := by
  unfold ev__law_number b__law_number
  rw [w_def rfl]
  walk_at "evj"
  refine htake_ok a b 12 h (by decide) (by decide) fun a1 b1 d1 g1 g2 h1 => ?_
  walk_at "evj"
  refine htake_ok a1 b1 5 h1 (by decide) (by decide) fun a2 b2 d2 g3 g4 h2 => ?_
  walk_at "evj"
  refine cut_seq (fun e => ∃ (a b t c : Int), e = [.io [.int a, .int b], .fz (.int d1), .fz (.int t), .fz (.int c)] ∧ 1 ≤ t ∧ t ≤ 5 ∧ 1 ≤ c ∧ c ≤ 4 ∧ PoolH a b) ?_ ?_
  · walk_at "evj"
    refine ⟨fun _ => ?_, fun _ => ⟨_, _, _, _, rfl, by omega, by omega, by decide, by decide, h2⟩⟩
    refine htake_ok a2 b2 4 h2 (by decide) (by decide) fun a3 b3 d3 g5 g6 h3 => ?_
    walk_at "evj"
    exact ⟨_, _, _, _, rfl, by omega, by omega, by omega, by omega, h3⟩
  rintro e ⟨a3, b3, t, c, rfl, t1, t2, c1, c2, h3⟩
  refine cut_seq (fun e => ∃ (a b t c : Int), e = [.io [.int a, .int b], .fz (.int d1), .fz (.int t), .fz (.int c)] ∧ 1 ≤ t ∧ t ≤ 100000 ∧ 1 ≤ c ∧ c ≤ 1000 ∧ PoolH a b) ?_ ?_
  · walk_at "evj"
    refine ⟨fun _ => ?_, fun _ => ⟨_, _, _, _, rfl, by omega, by omega, by omega, by omega, h3⟩⟩
    refine htake_ok a3 b3 99999 h3 (by decide) (by decide) fun a4 b4 d4 g5 g6 h4 => ?_
    walk_at "evj"
    refine htake_ok a4 b4 999 h4 (by decide) (by decide) fun a5 b5 d5 g7 g8 h5 => ?_
    walk_at "evj"
    exact ⟨_, _, _, _, rfl, by omega, by omega, by omega, by omega, h5⟩
  clear h1 h2 h3 t1 t2 c1 c2
  rintro e ⟨a4, b4, t, c, rfl, t1, t2, c1, c2, h4⟩
  walk_at "evj"
  refine htake_ok a4 b4 2 h4 (by decide) (by decide) fun a5 b5 d5 g7 g8 h5 => ?_
  walk_at "evj"
  have sg : d5 = 0 ∨ d5 = 1 := by omega
  have tb : (t * (1 - 2 * d5)).natAbs ≤ 100000 ∧ t * (1 - 2 * d5) ≠ 0 := by
    rcases sg with z | z <;> subst z <;> constructor <;> omega
  refine ⟨mul40 (by omega) (by omega) (by omega) (by omega), mul40 (by omega) (by omega) (by omega) (by omega), ok_eq (hlow_eq _ c (by omega) (bits_8999 (a := 18) (by omega) (by decide))) ?_⟩
  walk_at "evj"
  exact q _ _ _ (lowR_gd (by omega) (by omega) (by omega)) (low_ne (by omega) tb.2) h5
theorem mem_mPut {α : Type} {m : List (R × α)} {k : R} {x : α} {p : R × α} (h : p ∈ mPut m k x) : p = (k, x) ∨ p ∈ m := by
  unfold mPut at h
  split at h
  · obtain ⟨q, hq, e⟩ := List.mem_map.mp h
    split at e
    · rename_i c
      rw [c] at e
      exact .inl e.symm
    · rw [← e]
      exact .inr hq
  · rcases List.mem_append.mp h with z | z
    · exact .inr z
    · exact .inl (List.mem_singleton.mp z)
def keepR (m : List (R × R)) (k : R) : Bool := match mVal m k with
  | some r => !decide (r.1 = 0)
  | none => false
theorem toldT_keys (m : List (R × R)) : (toldT m).map keyT = (srtP (m.map (·.1))).filter (keepR m) := by
  unfold toldT
  generalize srtP (m.map (·.1)) = l
  induction l with
  | nil => rfl
  | cons k l ih =>
    rw [List.flatMap_cons, List.map_append, ih, List.filter_cons]
    have e1 : toldR m k = if keepR m k = true then [(k.1, k.2, (mVal m k).getD (0, 1))] else [] := by
      unfold toldR keepR
      cases mVal m k with
      | none => rfl
      | some r =>
        show (if r.1 = 0 then [] else [(k.1, k.2, r)]) = if (!decide (r.1 = 0)) = true then [(k.1, k.2, r)] else []
        by_cases c : r.1 = 0
        · rw [if_pos c, if_neg (by simp [c])]
        · rw [if_neg c, if_pos (by simp [c])]
    rw [e1]
    split
    · rfl
    · rfl
theorem toldT_str (m : List (R × R)) : StrP ((toldT m).map keyT) := by
  rw [toldT_keys]
  exact (str_srtP _).filter _
theorem toldT_mem {m : List (R × R)} {t : Trm} (h : t ∈ toldT m) : (keyT t, t.2.2) ∈ m ∧ t.2.2.1 ≠ 0 := by
  obtain ⟨k, hk, ht⟩ := List.mem_flatMap.mp h
  obtain ⟨r, e, hm⟩ := mVal_some (mem_srtP.mp hk)
  unfold toldR at ht
  rw [e] at ht
  dsimp only at ht
  split at ht
  · cases ht
  · rename_i c
    rw [List.mem_singleton.mp ht]
    exact ⟨hm, c⟩
theorem sumby_ok {P : D × Bool × List (List D) → Prop} (a b many wide : Int) (h : PoolH a b) (m1 : 1 ≤ many) (m2 : many ≤ 9) (w1 : 0 ≤ wide) (w2 : wide ≤ 6)
    (q : ∀ a' b' (ts : List Trm), ts.length ≤ many.toNat → (∀ t, t ∈ ts → TrmOk 18 wide t) → StrP (ts.map keyT) → PoolH a' b' → P (.lst (ts.map encT), true, [[.int a', .int b']])) : Ok (ev__law_sum_by [.lst [.int a, .int b], .int many, .int wide]) P := by
  unfold ev__law_sum_by b__law_sum_by
  rw [w_def rfl]
  walk_at "evj"
  refine htake_ok a b many h (by omega) (by omega) fun a1 b1 d1 g1 g2 h1 => ?_
  walk_at "evj"
  refine ⟨by omega, ?_⟩
  refine loop_inv (fun j env => ∃ (a b : Int) (m : List (R × R)) (s4 s5 : SV), env = [.io [.int a, .int b], .fz (.int many), .fz (.int wide), .nw (.dct (encK encR m)), s4, s5] ∧ freeP s4 = true ∧ freeP s5 = true ∧ m.length ≤ j ∧ (∀ p, p ∈ m → (-wide ≤ p.1.1 ∧ p.1.1 ≤ wide ∧ -wide ≤ p.1.2 ∧ p.1.2 ≤ wide) ∧ Gd 18 p.2 ∧ p.2.1 ≠ 0) ∧ PoolH a b) _ 0 _ ⟨a1, b1, [], .no, .no, rfl, rfl, rfl, Nat.le_refl _, (fun p hp => nomatch hp), h1⟩ (fun j d env hd hi => ?_) fun env hi => ?_
  · obtain ⟨a, b, m, s4, s5, rfl, f4, f5, lm, hm, hp⟩ := hi
    obtain ⟨hj, rfl⟩ := rangeD_get hd
    walk_at "evj"
    refine ⟨f4, mul40 (by omega) (by omega) (by omega) (by omega), htake_ok a b _ hp (by omega) (by omega) fun a2 b2 d2 g3 g4 h2 => ?_⟩
    walk_at "evj"
    refine ⟨f5, num68_ok a2 b2 h2 fun a3 b3 p gp p0 h3 => ?_⟩
    walk_at "evj"
    refine ⟨mul40 (by omega) (by omega) (by omega) (by omega), htake_ok a3 b3 _ h3 (by omega) (by omega) fun a4 b4 d4 g5 g6 h4 => ?_⟩
    walk_at "evj"
    rw [kPut_enc (c := encR)]
    have ln := mLen_put m (d2 - wide, d4 - wide) p
    refine ⟨by omega, a4, b4, mPut m (d2 - wide, d4 - wide) p, _, _, rfl, rfl, rfl, by omega, fun x hx => ?_, h4⟩
    rcases mem_mPut hx with z | z
    · rw [z]
      exact ⟨⟨by show -wide ≤ d2 - wide; omega, by show d2 - wide ≤ wide; omega, by show -wide ≤ d4 - wide; omega, by show d4 - wide ≤ wide; omega⟩, gp, p0⟩
    · exact hm x z
  · obtain ⟨a, b, m, s4, s5, rfl, f4, f5, lm, hm, hp⟩ := hi
    rw [rangeD_len, Nat.zero_add] at lm
    have e := told_eq (m := m) (by omega)
    unfold dctE at e
    walk_at "evj"
    refine ok_eq e ?_
    walk_at "evj"
    refine q a b (toldT m) (by have := toldT_len m; omega) (fun t ht => ?_) (toldT_str m) hp
    obtain ⟨t1, t2⟩ := toldT_mem ht
    obtain ⟨⟨y1, y2, y3, y4⟩, y5, y6⟩ := hm _ t1
    exact ⟨y1, y2, y3, y4, y5, y6⟩
end Lw

namespace Lw
open PySem L2 Dv
/-! nought is refused: the law -/
theorem look_two {d1 d2 : D} {b1 b2 : Bool} (h1 : gEq d1 (.lst []) = some (.val (.bl b1))) (h2 : gEq d2 (.lst []) = some (.val (.bl b2))) (h : (b1 || b2) = true) : evx_look_sums [.lst [d1, d2]] = some (.error 1) := by
  have key : Ok (evx_look_sums [.lst [d1, d2]]) fun r => r = .error 1 := by
    unfold evx_look_sums bx_look_sums
    rw [w_defX rfl]
    walk_at "ev"
    refine ok_eq h1 ?_
    cases b1 with
    | true => walk_at "ev"
    | false =>
      walk_at "ev"
      refine ok_eq h2 ?_
      rw [Bool.false_or] at h
      rw [h]
      walk_at "ev"
  obtain ⟨r, e, h⟩ := key
  rw [e, h]
theorem look_one : evx_look_sums [.lst [.lst []]] = some (.error 1) := by
  have key : Ok (evx_look_sums [.lst [.lst []]]) fun r => r = .error 1 := by
    unfold evx_look_sums bx_look_sums
    rw [w_defX rfl]
    walk_at "ev"
    refine ok_eq (show gEq (.lst []) (.lst []) = _ from gEq_Tm [] []) ?_
    rw [decide_eq_true rfl]
    walk_at "ev"
  obtain ⟨r, e, h⟩ := key
  rw [e, h]
theorem elim_no {d1 d2 : D} (h : evx_look_sums [.lst [d1, d2]] = some (.error 1)) : evx_eliminant [d1, d2] = some (.error 1) := by
  have key : Ok (evx_eliminant [d1, d2]) fun r => r = .error 1 := by
    unfold evx_eliminant bx_eliminant
    rw [w_defX rfl]
    walk_at "ev"
    refine ok_eq h ?_
    walk_at "ev"
  obtain ⟨r, e, h⟩ := key
  rw [e, h]
theorem common_no {d1 d2 : D} (h : evx_look_sums [.lst [d1, d2]] = some (.error 1)) : evx_common [d1, d2] = some (.error 1) := by
  have key : Ok (evx_common [d1, d2]) fun r => r = .error 1 := by
    unfold evx_common bx_common
    rw [w_defX rfl]
    walk_at "ev"
    refine ok_eq h ?_
    walk_at "ev"
  obtain ⟨r, e, h⟩ := key
  rw [e, h]
theorem rests_no {d1 d2 : D} (h : evx_look_sums [.lst [d1, d2]] = some (.error 1)) (p : Addr) : evx_Rests__init__ [.adr p, d1, d2] = some (.error 1) := by
  have key : Ok (evx_Rests__init__ [.adr p, d1, d2]) fun r => r = .error 1 := by
    unfold evx_Rests__init__ bx_Rests__init__
    rw [w_defX rfl]
    walk_at "ev"
    refine ok_eq h ?_
    walk_at "ev"
  obtain ⟨r, e, h⟩ := key
  rw [e, h]
theorem parted_no {d1 : D} : evx_parted [d1, .lst []] = some (.error 1) := by
  have key : Ok (evx_parted [d1, .lst []]) fun r => r = .error 1 := by
    unfold evx_parted bx_parted
    rw [w_defX rfl]
    walk_at "ev"
    refine ok_eq look_one ?_
    walk_at "ev"
  obtain ⟨r, e, h⟩ := key
  rw [e, h]
theorem asked_no {d1 d2 : D} {w : Int} (hw : w = 0 ∨ w = 1 ∨ w = 2) (h : evx_look_sums [.lst [d1, d2]] = some (.error 1)) : ev__law_asked [.int w, d1, d2] = some (.str "nought", false, []) := by
  have key : Ok (ev__law_asked [.int w, d1, d2]) fun r => r = (.str "nought", false, []) := by
    unfold ev__law_asked b__law_asked
    rw [w_def rfl]
    rcases hw with rfl | rfl | rfl
    · walk_at "ev"
      refine ok_eq (elim_no h) ?_
      walk_at "ev"
      exact ⟨List.mem_cons_self, rfl⟩
    · walk_at "ev"
      refine ok_eq (common_no h) ?_
      walk_at "ev"
      exact ⟨List.mem_cons_self, rfl⟩
    · walk_at "ev"
      refine w_makeX (ds := [d1, d2]) (bor := []) ?_ rfl (fun p => rests_no h p)
      walk_at "ev"
      exact ⟨List.mem_cons_self, rfl⟩
  obtain ⟨r, e, h⟩ := key
  rw [e, h]
theorem asked_parted {d1 : D} : ev__law_asked [.int 3, d1, .lst []] = some (.str "nought", false, []) := by
  have key : Ok (ev__law_asked [.int 3, d1, .lst []]) fun r => r = (.str "nought", false, []) := by
    unfold ev__law_asked b__law_asked
    rw [w_def rfl]
    walk_at "ev"
    refine ok_eq parted_no ?_
    walk_at "ev"
    exact ⟨List.mem_cons_self, rfl⟩
  obtain ⟨r, e, h⟩ := key
  rw [e, h]
theorem gNe_nought : gNe (.str "nought") (.str "nought") = some (.val (.bl false)) := gNe_of (b := true) (by decide +kernel) (by decide +kernel) (by decide +kernel)
theorem gEq_nought : gEq (.str "nought") (.str "nought") = some (.val (.bl true)) := gEq_str (by decide +kernel) (by decide +kernel)
theorem law_true (ns : List Int) (hn : ns.length ≤ 63) : ev_law [.scr ns] = some (.bl true, false, []) := by
  have key : Ok (ev_law [.scr ns]) fun r => r = (.bl true, false, []) := by
    unfold ev_law b_law
    rw [w_def rfl]
    walk_at "evj"
    refine hpool_ok ns _ (by omega) (by omega) fun a b hab => ?_
    walk_at "evj"
    refine sumby_ok a b 4 2 hab (by decide) (by decide) (by decide) (by decide) fun a2 b2 C lc hc sc hab => ?_
    walk_at "evj"
    have g0 : gEq (.lst (C.map encT)) (.lst []) = some (.val (.bl (decide (C = [])))) := gEq_Tm C []
    have g1 : gEq (.lst []) (.lst []) = some (.val (.bl true)) := gEq_Tm [] []
    have l1 := look_two g0 g1 (by simp)
    have l2 := look_two g1 g0 (by simp)
    have l3 := look_two g1 g1 (by simp)
    have n0 : gNe (.lst (C.map encT)) (.lst (C.map encT)) = some (.val (.bl false)) := by rw [gNe_Tm, decide_eq_true rfl]; rfl
    have e0 : gEq (.lst (C.map encT)) (.lst (C.map encT)) = some (.val (.bl true)) := by rw [gEq_Tm, decide_eq_true rfl]
    repeat (first
      | rfl
      | refine ok_eq (asked_no (by decide) l1) ?_
      | refine ok_eq (asked_no (by decide) l2) ?_
      | refine ok_eq (asked_no (by decide) l3) ?_
      | refine ok_eq asked_parted ?_
      | refine ok_eq gNe_nought ?_
      | refine ok_eq gEq_nought ?_
      | refine ok_eq n0 ?_
      | refine ok_eq e0 ?_
      | walk_at "ev")
  obtain ⟨r, e, h⟩ := key
  rw [e, h]
end Lw

/-! the walk: printed by gen.py -/
namespace Lw
open PySem PySem.Spec PyProof.Rows L2 Dv
def topS (i : Nat) : Stmt := PySem.Challenge.pw_mixedmeets_k44_nought_refused.main.body.getD i (.Pass ⟨0, 0, 0, 0⟩)
def inC (i j : Nat) : Stmt := match topS i with
  | .ClassDef (body := b) .. => b.getD j (.Pass ⟨0, 0, 0, 0⟩)
  | s => s
abbrev st_look_sums : Stmt := topS 92
abbrev N_look_sums : List Str := ["sums", "one"]
abbrev P_look_sums : List Str := ["sums"]
theorem sc_look_sums : FnScope N_look_sums P_look_sums (defScope st_look_sums) := ⟨rfl, rfl, rfl, by decide +kernel, rfl, by decide +kernel, by decide +kernel⟩
abbrev st_eliminant : Stmt := topS 99
abbrev N_eliminant : List Str := ["f", "g", "one", "other", "m", "n"]
abbrev P_eliminant : List Str := ["f", "g"]
theorem sc_eliminant : FnScope N_eliminant P_eliminant (defScope st_eliminant) := ⟨rfl, rfl, rfl, by decide +kernel, rfl, by decide +kernel, by decide +kernel⟩
abbrev st_common : Stmt := topS 100
abbrev N_common : List Str := ["f", "g", "place", "table", "upright", "other", "found"]
abbrev P_common : List Str := ["f", "g"]
theorem sc_common : FnScope N_common P_common (defScope st_common) := ⟨rfl, rfl, rfl, by decide +kernel, rfl, by decide +kernel, by decide +kernel⟩
abbrev st_parted : Stmt := topS 101
abbrev N_parted : List Str := ["f", "c", "table", "quotient", "left"]
abbrev P_parted : List Str := ["f", "c"]
theorem sc_parted : FnScope N_parted P_parted (defScope st_parted) := ⟨rfl, rfl, rfl, by decide +kernel, rfl, by decide +kernel, by decide +kernel⟩
abbrev st_Rests__init__ : Stmt := inC 115 0
abbrev N_Rests__init__ : List Str := ["self", "f", "g"]
abbrev P_Rests__init__ : List Str := ["self", "f", "g"]
theorem sc_Rests__init__ : FnScope N_Rests__init__ P_Rests__init__ (defScope st_Rests__init__) := ⟨rfl, rfl, rfl, by decide +kernel, rfl, by decide +kernel, by decide +kernel⟩
abbrev st__law_pool : Stmt := topS 117
abbrev N__law_pool : List Str := ["_law_script", "_law_at", "_law_cell", "_law_far", "_law_primes"]
abbrev P__law_pool : List Str := ["_law_script", "_law_at"]
theorem sc__law_pool : FnScope N__law_pool P__law_pool (defScope st__law_pool) := ⟨rfl, rfl, rfl, by decide +kernel, rfl, by decide +kernel, by decide +kernel⟩
abbrev st__law_take : Stmt := topS 118
abbrev N__law_take : List Str := ["_law_pool_here", "_law_many", "_law_found"]
abbrev P__law_take : List Str := ["_law_pool_here", "_law_many"]
theorem sc__law_take : FnScope N__law_take P__law_take (defScope st__law_take) := ⟨rfl, rfl, rfl, by decide +kernel, rfl, by decide +kernel, by decide +kernel⟩
abbrev st__law_low : Stmt := topS 119
abbrev N__law_low : List Str := ["_law_top", "_law_bottom", "_law_one", "_law_other"]
abbrev P__law_low : List Str := ["_law_top", "_law_bottom"]
theorem sc__law_low : FnScope N__law_low P__law_low (defScope st__law_low) := ⟨rfl, rfl, rfl, by decide +kernel, rfl, by decide +kernel, by decide +kernel⟩
abbrev st__law_told : Stmt := topS 124
abbrev N__law_told : List Str := ["_law_found", "_law_a", "_law_b"]
abbrev P__law_told : List Str := ["_law_found"]
theorem sc__law_told : FnScope N__law_told P__law_told (defScope st__law_told) := ⟨rfl, rfl, rfl, by decide +kernel, rfl, by decide +kernel, by decide +kernel⟩
abbrev st__law_number : Stmt := topS 127
abbrev N__law_number : List Str := ["_law_pool_here", "_law_way", "_law_top", "_law_bottom"]
abbrev P__law_number : List Str := ["_law_pool_here"]
theorem sc__law_number : FnScope N__law_number P__law_number (defScope st__law_number) := ⟨rfl, rfl, rfl, by decide +kernel, rfl, by decide +kernel, by decide +kernel⟩
abbrev st__law_sum_by : Stmt := topS 128
abbrev N__law_sum_by : List Str := ["_law_pool_here", "_law_most", "_law_wide", "_law_found", "_law_k", "_law_a"]
abbrev P__law_sum_by : List Str := ["_law_pool_here", "_law_most", "_law_wide"]
theorem sc__law_sum_by : FnScope N__law_sum_by P__law_sum_by (defScope st__law_sum_by) := ⟨rfl, rfl, rfl, by decide +kernel, rfl, by decide +kernel, by decide +kernel⟩
abbrev st__law_class : Stmt := topS 129
abbrev N__law_class : List Str := ["_law_e", "_law_found"]
abbrev P__law_class : List Str := ["_law_e"]
theorem sc__law_class : FnScope N__law_class P__law_class (defScope st__law_class) := ⟨rfl, rfl, rfl, by decide +kernel, rfl, by decide +kernel, by decide +kernel⟩
abbrev st__law_asked : Stmt := topS 130
abbrev N__law_asked : List Str := ["_law_which", "_law_f", "_law_g", "_law_e"]
abbrev P__law_asked : List Str := ["_law_which", "_law_f", "_law_g"]
theorem sc__law_asked : FnScope N__law_asked P__law_asked (defScope st__law_asked) := ⟨rfl, rfl, rfl, by decide +kernel, rfl, by decide +kernel, by decide +kernel⟩
abbrev st_law : Stmt := topS 131
abbrev N_law : List Str := ["_law_script", "_law_f", "_law_handed", "_law_which", "_law_one", "_law_other"]
abbrev P_law : List Str := ["_law_script"]
theorem sc_law : FnScope N_law P_law (defScope st_law) := ⟨rfl, rfl, rfl, by decide +kernel, rfl, by decide +kernel, by decide +kernel⟩
theorem bt_ValueError : bootBuiltins "ValueError" = some (.type "ValueError") := by decide +kernel
theorem bt_abs : bootBuiltins "abs" = some (.builtin "abs") := by decide +kernel
theorem bt_isinstance : bootBuiltins "isinstance" = some (.builtin "isinstance") := by decide +kernel
theorem bt_len : bootBuiltins "len" = some (.builtin "len") := by decide +kernel
theorem bt_list : bootBuiltins "list" = some (.type "list") := by decide +kernel
theorem bt_sorted : bootBuiltins "sorted" = some (.builtin "sorted") := by decide +kernel
structure Txt (K : PySem.W.Frag) (mg : Str → Option Value) where
  m_ValueError : mg "ValueError" = none
  m_abs : mg "abs" = none
  m_isinstance : mg "isinstance" = none
  m_len : mg "len" = none
  m_list : mg "list" = none
  m_range : mg "range" = none
  m_sorted : mg "sorted" = none
  a_look_sums : Addr
  d_look_sums : FuncData
  F_look_sums : Fun K "look_sums" "look_sums" st_look_sums a_look_sums d_look_sums
  b_look_sums : Binds K d_look_sums P_look_sums []
  g_look_sums : mg "look_sums" = some (.ref a_look_sums)
  a_eliminant : Addr
  d_eliminant : FuncData
  F_eliminant : Fun K "eliminant" "eliminant" st_eliminant a_eliminant d_eliminant
  b_eliminant : Binds K d_eliminant P_eliminant []
  g_eliminant : mg "eliminant" = some (.ref a_eliminant)
  a_common : Addr
  d_common : FuncData
  F_common : Fun K "common" "common" st_common a_common d_common
  b_common : Binds K d_common P_common []
  g_common : mg "common" = some (.ref a_common)
  a_parted : Addr
  d_parted : FuncData
  F_parted : Fun K "parted" "parted" st_parted a_parted d_parted
  b_parted : Binds K d_parted P_parted []
  g_parted : mg "parted" = some (.ref a_parted)
  a_Rests__init__ : Addr
  d_Rests__init__ : FuncData
  F_Rests__init__ : Fun K "__init__" "Rests.__init__" st_Rests__init__ a_Rests__init__ d_Rests__init__
  b_Rests__init__ : Binds K d_Rests__init__ P_Rests__init__ []
  a__law_pool : Addr
  d__law_pool : FuncData
  F__law_pool : Fun K "_law_pool" "_law_pool" st__law_pool a__law_pool d__law_pool
  b__law_pool : Binds K d__law_pool P__law_pool []
  g__law_pool : mg "_law_pool" = some (.ref a__law_pool)
  a__law_take : Addr
  d__law_take : FuncData
  F__law_take : Fun K "_law_take" "_law_take" st__law_take a__law_take d__law_take
  b__law_take : Binds K d__law_take P__law_take []
  g__law_take : mg "_law_take" = some (.ref a__law_take)
  a__law_low : Addr
  d__law_low : FuncData
  F__law_low : Fun K "_law_low" "_law_low" st__law_low a__law_low d__law_low
  b__law_low : Binds K d__law_low P__law_low []
  g__law_low : mg "_law_low" = some (.ref a__law_low)
  a__law_told : Addr
  d__law_told : FuncData
  F__law_told : Fun K "_law_told" "_law_told" st__law_told a__law_told d__law_told
  b__law_told : Binds K d__law_told P__law_told []
  g__law_told : mg "_law_told" = some (.ref a__law_told)
  a__law_number : Addr
  d__law_number : FuncData
  F__law_number : Fun K "_law_number" "_law_number" st__law_number a__law_number d__law_number
  b__law_number : Binds K d__law_number P__law_number []
  g__law_number : mg "_law_number" = some (.ref a__law_number)
  a__law_sum_by : Addr
  d__law_sum_by : FuncData
  F__law_sum_by : Fun K "_law_sum_by" "_law_sum_by" st__law_sum_by a__law_sum_by d__law_sum_by
  b__law_sum_by : Binds K d__law_sum_by P__law_sum_by []
  g__law_sum_by : mg "_law_sum_by" = some (.ref a__law_sum_by)
  a__law_class : Addr
  d__law_class : FuncData
  F__law_class : Fun K "_law_class" "_law_class" st__law_class a__law_class d__law_class
  b__law_class : Binds K d__law_class P__law_class []
  g__law_class : mg "_law_class" = some (.ref a__law_class)
  a__law_asked : Addr
  d__law_asked : FuncData
  F__law_asked : Fun K "_law_asked" "_law_asked" st__law_asked a__law_asked d__law_asked
  b__law_asked : Binds K d__law_asked P__law_asked []
  g__law_asked : mg "_law_asked" = some (.ref a__law_asked)
  a_law : Addr
  d_law : FuncData
  F_law : Fun K "law" "law" st_law a_law d_law
  b_law : Binds K d_law P_law []
  g_law : mg "law" = some (.ref a_law)
  c_MeetError : Addr
  gC_MeetError : mg "MeetError" = some (.ref c_MeetError)
  c_NoRatio : Addr
  gC_NoRatio : mg "NoRatio" = some (.ref c_NoRatio)
  c_Nought : Addr
  gC_Nought : mg "Nought" = some (.ref c_Nought)
  c_NoTable : Addr
  gC_NoTable : mg "NoTable" = some (.ref c_NoTable)
  c_NoStep : Addr
  gC_NoStep : mg "NoStep" = some (.ref c_NoStep)
  c_NoSide : Addr
  gC_NoSide : mg "NoSide" = some (.ref c_NoSide)
  c_NoPart : Addr
  gC_NoPart : mg "NoPart" = some (.ref c_NoPart)
  c_TooMuch : Addr
  gC_TooMuch : mg "TooMuch" = some (.ref c_TooMuch)
  c_CommonPart : Addr
  gC_CommonPart : mg "CommonPart" = some (.ref c_CommonPart)
  c_NoText : Addr
  gC_NoText : mg "NoText" = some (.ref c_NoText)
  c_NoName : Addr
  gC_NoName : mg "NoName" = some (.ref c_NoName)
  c_Rests : Addr
  gC_Rests : mg "Rests" = some (.ref c_Rests)
  q_Nought : PySem.W.excIn K c_Nought [.type "ValueError", .type "Exception", .type "BaseException", .type "object"] "ValueError.__new__" = true
  kC_Nought : PySem.W.keepIn K (.ref c_Nought) = true
  r1_Nought : PySem.W.subIn K (.ref c_Nought) (.type "BaseException") = some true
  r2_Nought : PySem.W.typeIn K (.ref c_Nought) = some (.type "type")
  x1_Nought : PySem.W.findIn K (.ref c_Nought) "__getattribute__" = some (some (.builtin "BaseException.__getattribute__"))
  x2_Nought : PySem.W.findIn K (.ref c_Nought) "__getattr__" = some none
  x3_Nought : PySem.W.hasDictIn K c_Nought = true
  x4_Nought : PySem.W.findIn K (.ref c_Nought) "__class__" = some (some (.builtin "object.__class__"))
  x5_Nought : PySem.W.specialIn K (.builtin "object.__class__") "__get__" = some (some (.builtin "getset_descriptor.__get__"))
  x6_Nought : PySem.W.takesIn K (.builtin "object.__class__") = some true
  x7_Nought : PySem.W.mroIn K c_Nought (.type "object") = some true
  xm_Nought_MeetError : PySem.W.exmOne K (.ref c_Nought) (.ref c_MeetError) = some true
  kt_Nought_Nought : PySem.W.kitOne K (.ref c_Nought) (.ref c_Nought) = some true
  kt_Nought_TooMuch : PySem.W.kitOne K (.ref c_Nought) (.ref c_TooMuch) = some false
  kt_Nought_CommonPart : PySem.W.kitOne K (.ref c_Nought) (.ref c_CommonPart) = some false
  kt_Nought_NoPart : PySem.W.kitOne K (.ref c_Nought) (.ref c_NoPart) = some false
  kt_Nought_NoRatio : PySem.W.kitOne K (.ref c_Nought) (.ref c_NoRatio) = some false
  kt_Nought_NoSide : PySem.W.kitOne K (.ref c_Nought) (.ref c_NoSide) = some false
  kt_Nought_NoStep : PySem.W.kitOne K (.ref c_Nought) (.ref c_NoStep) = some false
  kt_Nought_NoTable : PySem.W.kitOne K (.ref c_Nought) (.ref c_NoTable) = some false
  kt_Nought_NoText : PySem.W.kitOne K (.ref c_Nought) (.ref c_NoText) = some false
  kt_Nought_NoName : PySem.W.kitOne K (.ref c_Nought) (.ref c_NoName) = some false
  kt_Nought_ValueError : PySem.W.kitOne K (.ref c_Nought) (.type "ValueError") = some true
  M_Rests : Mk K c_Rests a_Rests__init__
def clOf {K : PySem.W.Frag} {mg : Str → Option Value} (T : Txt K mg) : Nat → Addr
  | 1 => T.c_Nought
  | _ => T.c_MeetError
theorem ec_Nought {K : PySem.W.Frag} {mg : Str → Option Value} (T : Txt K mg) : ExcC K T.c_Nought := ⟨T.x1_Nought, T.x2_Nought, T.r1_Nought, T.x3_Nought, T.x4_Nought, T.x5_Nought, T.x6_Nought, T.x7_Nought⟩
theorem ctxN {cls : Value} {d : Option Addr} {oe : Obj} (hz : L2N.Zn cls d oe) (hf : ∃ vs, oe.data = .fields vs) : ∃ vs : Array Value, oe.data = .fields vs ∧ vs[2]? = some .none := by
  obtain ⟨vs, h⟩ := hf
  exact ⟨vs, h, hz.2.2 vs h⟩
section
variable {P : Program} {w : World} {K : PySem.W.Frag} {mg : Str → Option Value} {base : Heap}
theorem ok_look_sums (T : Txt K mg) : FnOk P w K mg base CX0 1 T.a_look_sums T.d_look_sums P_look_sums (spD K [false] ev_look_sums) :=
  ok_def (N := N_look_sums) (k := 0) (b := b_look_sums) T.F_look_sums sc_look_sums rfl fun cdv A outer s H E hr => ⟨_,
    (pss_one (ps_for PassesOwn.never rfl (pi_list (pv 0)) (pg_name (i := 1) sc_look_sums.nd rfl (.inl rfl)) (pss_one (ps_if (pt_cmpR (op_eqD hr.units) (pv 1) (pe_lst pa_nil) (nomark _)) (pss_one ps_never) pss_nil)))),
    (ss_for (si_list (snd_var 0)) (sg_name 1) (ss_if (st_test (snd_2 (snd_var 1) (snd_lst sa_nil) op2_eq)) ss_never ss_next))⟩
theorem okx_look_sums (T : Txt K mg) : FnOk P w K mg base (L2N.CX P w) 1 T.a_look_sums T.d_look_sums P_look_sums (spX K (clOf T) [false] evx_look_sums) :=
  ok_defX (cl := clOf T) (N := N_look_sums) (k := 0) (b := bx_look_sums) T.F_look_sums sc_look_sums rfl fun cdv A outer s H E hr tk => ⟨_,
    (pss_one (ps_for PassesOwn.leaving rfl (pi_list (pv 0)) (pg_name (i := 1) sc_look_sums.nd rfl (.inl rfl)) (pss_one (ps_if (pt_cmpR (op_eqD hr.units) (pv 1) (pe_lst pa_nil) (nomark _)) (pss_one (ps_raiseK rfl tk T.q_Nought T.gC_Nought T.kC_Nought T.r1_Nought T.r2_Nought (by rfl))) pss_nil)))),
    (ss_for (si_list (snd_var 0)) (sg_name 1) (ss_if (st_test (snd_2 (snd_var 1) (snd_lst sa_nil) op2_eq)) (ss_raise (n := 1)) ss_next))⟩
theorem ok_eliminant (T : Txt K mg) : FnOk P w K mg base CX0 2 T.a_eliminant T.d_eliminant P_eliminant (spD K [false, false] ev_eliminant) :=
  ok_def (N := N_eliminant) (k := 1) (b := b_eliminant) T.F_eliminant sc_eliminant rfl fun cdv A outer s H E hr => ⟨_,
    (pss_cons (ps_expr (pe_call (ok_look_sums T) (hr.mono (by decide)) (by rfl) T.g_look_sums T.F_look_sums.kp T.b_look_sums .nil pass0 (pa_cons (pe_lst (pa_cons (pv 0) (pa_cons (pv 1) pa_nil))) pa_nil)))
      pss_neverS),
    (ss_seq (ss_drop (snd_call (sa_cons (snd_lst (sa_cons (snd_var 0) (sa_cons (snd_var 1) sa_nil))) sa_nil)))
      ss_neverS)⟩
theorem okx_eliminant (T : Txt K mg) : FnOk P w K mg base (L2N.CX P w) 2 T.a_eliminant T.d_eliminant P_eliminant (spX K (clOf T) [false, false] evx_eliminant) :=
  ok_defX (cl := clOf T) (N := N_eliminant) (k := 1) (b := bx_eliminant) T.F_eliminant sc_eliminant rfl fun cdv A outer s H E hr tk => ⟨_,
    (pss_cons (ps_expr (pe_callS (okx_look_sums T) (hr.mono (by decide)) (by rfl) T.g_look_sums T.F_look_sums.kp T.b_look_sums (fun σ => L2N.passAt tk σ) (pa_cons (pe_lst (pa_cons (pv 0) (pa_cons (pv 1) pa_nil))) pa_nil)))
      (PSs.nox pss_neverS)),
    (ss_seq (ss_dropX (sndX_call (sa_cons (snd_lst (sa_cons (snd_var 0) (sa_cons (snd_var 1) sa_nil))) sa_nil)))
      ss_neverS)⟩
theorem ok_common (T : Txt K mg) : FnOk P w K mg base CX0 2 T.a_common T.d_common P_common (spD K [false, false] ev_common) :=
  ok_def (N := N_common) (k := 1) (b := b_common) T.F_common sc_common rfl fun cdv A outer s H E hr => ⟨_,
    (pss_cons (ps_expr (pe_call (ok_look_sums T) (hr.mono (by decide)) (by rfl) T.g_look_sums T.F_look_sums.kp T.b_look_sums .nil pass0 (pa_cons (pe_lst (pa_cons (pv 0) (pa_cons (pv 1) pa_nil))) pa_nil)))
      pss_neverS),
    (ss_seq (ss_drop (snd_call (sa_cons (snd_lst (sa_cons (snd_var 0) (sa_cons (snd_var 1) sa_nil))) sa_nil)))
      ss_neverS)⟩
theorem okx_common (T : Txt K mg) : FnOk P w K mg base (L2N.CX P w) 2 T.a_common T.d_common P_common (spX K (clOf T) [false, false] evx_common) :=
  ok_defX (cl := clOf T) (N := N_common) (k := 1) (b := bx_common) T.F_common sc_common rfl fun cdv A outer s H E hr tk => ⟨_,
    (pss_cons (ps_expr (pe_callS (okx_look_sums T) (hr.mono (by decide)) (by rfl) T.g_look_sums T.F_look_sums.kp T.b_look_sums (fun σ => L2N.passAt tk σ) (pa_cons (pe_lst (pa_cons (pv 0) (pa_cons (pv 1) pa_nil))) pa_nil)))
      (PSs.nox pss_neverS)),
    (ss_seq (ss_dropX (sndX_call (sa_cons (snd_lst (sa_cons (snd_var 0) (sa_cons (snd_var 1) sa_nil))) sa_nil)))
      ss_neverS)⟩
theorem ok_parted (T : Txt K mg) : FnOk P w K mg base CX0 2 T.a_parted T.d_parted P_parted (spD K [false, false] ev_parted) :=
  ok_def (N := N_parted) (k := 1) (b := b_parted) T.F_parted sc_parted rfl fun cdv A outer s H E hr => ⟨_,
    (pss_cons (ps_expr (pe_call (ok_look_sums T) (hr.mono (by decide)) (by rfl) T.g_look_sums T.F_look_sums.kp T.b_look_sums .nil pass0 (pa_cons (pe_lst (pa_cons (pv 1) pa_nil)) pa_nil)))
      pss_neverS),
    (ss_seq (ss_drop (snd_call (sa_cons (snd_lst (sa_cons (snd_var 1) sa_nil)) sa_nil)))
      ss_neverS)⟩
theorem okx_parted (T : Txt K mg) : FnOk P w K mg base (L2N.CX P w) 2 T.a_parted T.d_parted P_parted (spX K (clOf T) [false, false] evx_parted) :=
  ok_defX (cl := clOf T) (N := N_parted) (k := 1) (b := bx_parted) T.F_parted sc_parted rfl fun cdv A outer s H E hr tk => ⟨_,
    (pss_cons (ps_expr (pe_callS (okx_look_sums T) (hr.mono (by decide)) (by rfl) T.g_look_sums T.F_look_sums.kp T.b_look_sums (fun σ => L2N.passAt tk σ) (pa_cons (pe_lst (pa_cons (pv 1) pa_nil)) pa_nil)))
      (PSs.nox pss_neverS)),
    (ss_seq (ss_dropX (sndX_call (sa_cons (snd_lst (sa_cons (snd_var 1) sa_nil)) sa_nil)))
      ss_neverS)⟩
theorem ok_Rests__init__ (T : Txt K mg) : FnOk P w K mg base CX0 2 T.a_Rests__init__ T.d_Rests__init__ P_Rests__init__ (spD K [false, false, false] ev_Rests__init__) :=
  ok_def (N := N_Rests__init__) (k := 1) (b := b_Rests__init__) T.F_Rests__init__ sc_Rests__init__ rfl fun cdv A outer s H E hr => ⟨_,
    (pss_cons (ps_expr (pe_call (ok_look_sums T) (hr.mono (by decide)) (by rfl) T.g_look_sums T.F_look_sums.kp T.b_look_sums .nil pass0 (pa_cons (pe_lst (pa_cons (pv 1) (pa_cons (pv 2) pa_nil))) pa_nil)))
      pss_neverS),
    (ss_seq (ss_drop (snd_call (sa_cons (snd_lst (sa_cons (snd_var 1) (sa_cons (snd_var 2) sa_nil))) sa_nil)))
      ss_neverS)⟩
theorem okx_Rests__init__ (T : Txt K mg) : FnOk P w K mg base (L2N.CX P w) 2 T.a_Rests__init__ T.d_Rests__init__ P_Rests__init__ (spX K (clOf T) [false, false, false] evx_Rests__init__) :=
  ok_defX (cl := clOf T) (N := N_Rests__init__) (k := 1) (b := bx_Rests__init__) T.F_Rests__init__ sc_Rests__init__ rfl fun cdv A outer s H E hr tk => ⟨_,
    (pss_cons (ps_expr (pe_callS (okx_look_sums T) (hr.mono (by decide)) (by rfl) T.g_look_sums T.F_look_sums.kp T.b_look_sums (fun σ => L2N.passAt tk σ) (pa_cons (pe_lst (pa_cons (pv 1) (pa_cons (pv 2) pa_nil))) pa_nil)))
      (PSs.nox pss_neverS)),
    (ss_seq (ss_dropX (sndX_call (sa_cons (snd_lst (sa_cons (snd_var 1) (sa_cons (snd_var 2) sa_nil))) sa_nil)))
      ss_neverS)⟩
theorem ok__law_pool (T : Txt K mg) : FnOk P w K mg base CX0 1 T.a__law_pool T.d__law_pool P__law_pool (spD K [false, false] ev__law_pool) :=
  ok_def (N := N__law_pool) (k := 0) (b := b__law_pool) T.F__law_pool sc__law_pool rfl fun cdv A outer s H E hr => ⟨_,
    (pss_cons (ps_set (i := 2) sc__law_pool.nd rfl (.inl rfl) (pe_op o_add (pe_op o_mul pe_int (pv 1)) pe_int))
      (pss_cons (ps_if (pt_cmpR op_lt (pv 1) (pe_callB call_len_seq (by rfl) T.m_len bt_len (pa_cons (pv 0) pa_nil)) (nomark _)) (pss_one (ps_set (i := 2) sc__law_pool.nd rfl (.inl rfl) (pe_ix ix_seq (pv 0) (pv 1) (fun _ _ => rfl)))) pss_nil)
      (pss_cons (ps_set (i := 3) sc__law_pool.nd rfl (.inl rfl) (pe_callB call_abs (by rfl) T.m_abs bt_abs (pa_cons (pv 2) pa_nil)))
      (pss_cons (ps_if (pt_cmpR op_lt (pv 3) (pe_op o_pow pe_int pe_int) (nomark _)) (pss_one (ps_set (i := 3) sc__law_pool.nd rfl (.inl rfl) pe_int)) pss_nil)
      (pss_cons (ps_set (i := 4) sc__law_pool.nd rfl (.inl rfl) (pe_tup (pa_cons pe_int (pa_cons pe_int (pa_cons pe_int (pa_cons pe_int (pa_cons pe_int (pa_cons pe_int (pa_cons pe_int (pa_cons pe_int pa_nil))))))))))
      (pss_one (ps_ret (pe_lst (pa_cons (pv 3) (pa_cons (pe_op o_mod (pe_op o_add (pe_op o_add (pe_op o_mul (pe_op o_mod (pv 2) (pe_ix ix_seq (pv 4) (pe_op o_mod (pv 1) pe_int) (fun _ _ => rfl))) pe_int) (pe_op o_mul pe_int (pv 1))) pe_int) pe_int) pa_nil)))))))))),
    (ss_seq (ss_asg (snd_2 (snd_2 (snd_int _) (snd_var 1) q_mul) (snd_int _) q_add) (sg_name 2))
      (ss_cut (ss_seq (ss_if (st_test (snd_2 (snd_var 1) (snd_b (sa_cons (snd_var 0) sa_nil) cg_len) q_lt)) (ss_asg (snd_2 (snd_var 0) (snd_var 1) op2_ix) (sg_name 2)) ss_next)
      (ss_seq (ss_asg (snd_b (sa_cons (snd_var 2) sa_nil) cg_abs) (sg_name 3))
      (ss_cut (ss_seq (ss_if (st_test (snd_2 (snd_var 3) (snd_2 (snd_int _) (snd_int _) q_pow) q_lt)) (ss_asg (snd_int _) (sg_name 3)) ss_next)
      (ss_seq (ss_asg (snd_tup (sa_cons (snd_int _) (sa_cons (snd_int _) (sa_cons (snd_int _) (sa_cons (snd_int _) (sa_cons (snd_int _) (sa_cons (snd_int _) (sa_cons (snd_int _) (sa_cons (snd_int _) sa_nil))))))))) (sg_name 4))
      (ss_ret (snd_lst (sa_cons (snd_var 3) (sa_cons (snd_2 (snd_2 (snd_2 (snd_2 (snd_2 (snd_var 2) (snd_2 (snd_var 4) (snd_2 (snd_var 1) (snd_int _) q_mod) op2_ix) q_mod) (snd_int _) q_mul) (snd_2 (snd_int _) (snd_var 1) q_mul) q_add) (snd_int _) q_add) (snd_int _) q_mod) sa_nil)))))))))))⟩
theorem ok__law_take (T : Txt K mg) : FnOk P w K mg base CX0 1 T.a__law_take T.d__law_take P__law_take (spD K [true, false] ev__law_take) :=
  ok_def (N := N__law_take) (k := 0) (b := b__law_take) T.F__law_take sc__law_take rfl fun cdv A outer s H E hr => ⟨_,
    (pss_cons (ps_if (pt_cmpR op_gt (pe_ix ix_seq (pv 0) pe_int (fun _ _ => rfl)) pe_int (nomark _)) (pss_cons (ps_set (i := 2) sc__law_take.nd rfl (.inl rfl) (pe_op o_mod (pe_ix ix_seq (pv 0) pe_int (fun _ _ => rfl)) (pv 1)))
      (pss_cons (ps_asg (pe_op o_div (pe_ix ix_seq (pv 0) pe_int (fun _ _ => rfl)) (pv 1)) (pg_sub (pv 0) pe_int set_list))
      (pss_one (ps_ret (pv 2))))) pss_nil)
      (pss_cons (ps_asg (pe_op o_mod (pe_op o_add (pe_op o_mul (pe_ix ix_seq (pv 0) pe_int (fun _ _ => rfl)) pe_int) pe_int) pe_int) (pg_sub (pv 0) pe_int set_list))
      (pss_one (ps_ret (pe_op o_mod (pe_op o_div (pe_op o_mod (pe_op o_pow (pe_ix ix_seq (pv 0) pe_int (fun _ _ => rfl)) pe_int) pe_int) pe_int) (pv 1)))))),
    (ss_seq (ss_if (st_test (snd_2 (snd_2 (snd_var 0) (snd_int _) op2_ix) (snd_int _) q_gt)) (ss_seq (ss_asg (snd_2 (snd_2 (snd_var 0) (snd_int _) op2_ix) (snd_var 1) q_mod) (sg_name 2))
      (ss_seq (ss_setI (snd_2 (snd_2 (snd_var 0) (snd_int _) op2_ix) (snd_var 1) q_div) (snd_int _))
      (ss_ret (snd_var 2)))) ss_next)
      (ss_seq (ss_setI (snd_2 (snd_2 (snd_2 (snd_2 (snd_var 0) (snd_int _) op2_ix) (snd_int _) q_mul) (snd_int _) q_add) (snd_int _) q_mod) (snd_int _))
      (ss_ret (snd_2 (snd_2 (snd_2 (snd_2 (snd_2 (snd_var 0) (snd_int _) op2_ix) (snd_int _) q_pow) (snd_int _) q_mod) (snd_int _) q_div) (snd_var 1) q_mod))))⟩
theorem ok__law_low (T : Txt K mg) : FnOk P w K mg base CX0 1 T.a__law_low T.d__law_low P__law_low (spD K [false, false] ev__law_low) :=
  ok_def (N := N__law_low) (k := 0) (b := b__law_low) T.F__law_low sc__law_low rfl fun cdv A outer s H E hr => ⟨_,
    (pss_cons (ps_par (by rfl) sc__law_low.nd (i := 2) (j := 3) rfl rfl (by decide) rfl rfl (pa_cons (pe_callB call_abs (by rfl) T.m_abs bt_abs (pa_cons (pv 0) pa_nil)) (pa_cons (pe_callB call_abs (by rfl) T.m_abs bt_abs (pa_cons (pv 1) pa_nil)) pa_nil)) (by rfl))
      (pss_cons (ps_while PassesOwn.never (pt_cmpR op_gt (pv 3) pe_int (nomark _)) (pss_one (ps_par (by rfl) sc__law_low.nd (i := 2) (j := 3) rfl rfl (by decide) rfl rfl (pa_cons (pv 3) (pa_cons (pe_op o_mod (pv 2) (pv 3)) pa_nil)) (by rfl))))
      (pss_cons (ps_if (pt_cmpR op_lt (pv 1) pe_int (nomark _)) (pss_one (ps_set (i := 2) sc__law_low.nd rfl (.inl rfl) (pe_un un_neg (pv 2)))) pss_nil)
      (pss_one (ps_ret (pe_tup (pa_cons (pe_op o_div (pv 0) (pv 2)) (pa_cons (pe_op o_div (pv 1) (pv 2)) pa_nil)))))))),
    (ss_seq (ss_par (sa_cons (snd_b (sa_cons (snd_var 0) sa_nil) cg_abs) (sa_cons (snd_b (sa_cons (snd_var 1) sa_nil) cg_abs) sa_nil)))
      (ss_seq (ss_while (st_test (snd_2 (snd_var 3) (snd_int _) q_gt)) (ss_par (sa_cons (snd_var 3) (sa_cons (snd_2 (snd_var 2) (snd_var 3) q_mod) sa_nil))))
      (ss_cut (ss_seq (ss_if (st_test (snd_2 (snd_var 1) (snd_int _) q_lt)) (ss_asg (snd_1 (snd_var 2) op1_neg) (sg_name 2)) ss_next)
      (ss_ret (snd_tup (sa_cons (snd_2 (snd_var 0) (snd_var 2) q_div) (sa_cons (snd_2 (snd_var 1) (snd_var 2) q_div) sa_nil))))))))⟩
theorem ok__law_told (T : Txt K mg) : FnOk P w K mg base CX0 1 T.a__law_told T.d__law_told P__law_told (spD K [false] ev__law_told) :=
  ok_def (N := N__law_told) (k := 0) (b := b__law_told) T.F__law_told sc__law_told rfl fun cdv A outer s H E hr => ⟨_,
    (pss_one (ps_ret (pe_lc (own := [("_law_a", 1), ("_law_b", 2)]) rfl sc__law_told.nd (pi_list (pe_callB (Big.cr_sortedDT rfl) (by rfl) T.m_sorted bt_sorted (pa_cons (pv 0) pa_nil))) (blkOk_by (own := [("_law_a", 1), ("_law_b", 2)]) (N := N__law_told) (sc := defScope st__law_told) (by decide +kernel)) (fun _ _ _ _ _ => (pg_tup rfl (pgs_cons (pg_name (i := 1) sc__law_told.nd rfl (.inl rfl)) (pgs_cons (pg_name (i := 2) sc__law_told.nd rfl (.inl rfl)) pgs_nil)))) (fun _ _ _ _ _ => (pts_one (pt_cmpR (op_neD hr.units) (pe_ix ix_seq (pe_dget (hu1 hr.units) (pv 0) (pe_tup (pa_cons (pv 1) (pa_cons (pv 2) pa_nil))) (fun _ _ => rfl)) pe_int (fun _ _ => rfl)) pe_int (nomark _)))) (fun _ _ _ _ _ => (pe_tup (pa_cons (pv 1) (pa_cons (pv 2) (pa_cons (pe_dget (hu1 hr.units) (pv 0) (pe_tup (pa_cons (pv 1) (pa_cons (pv 2) pa_nil))) (fun _ _ => rfl)) pa_nil)))))))),
    (ss_ret (snd_lc (vs := [1, 2]) (si_list (snd_b (sa_cons (snd_var 0) sa_nil) cg_dsortF)) (sw_tup (sws_cons (sw_name 1 (by decide)) (sws_cons (sw_name 2 (by decide)) sws_nil))) (st_test (snd_2 (snd_2 (snd_dgetF (snd_var 0) (snd_tupN (sa_cons (snd_var 1) (sa_cons (snd_var 2) sa_nil)))) (snd_int _) op2_ix) (snd_int _) op2_ne)) (snd_tup (sa_cons (snd_var 1) (sa_cons (snd_var 2) (sa_cons (snd_dgetF (snd_var 0) (snd_tupN (sa_cons (snd_var 1) (sa_cons (snd_var 2) sa_nil)))) sa_nil))))))⟩
theorem ok__law_number (T : Txt K mg) : FnOk P w K mg base CX0 2 T.a__law_number T.d__law_number P__law_number (spD K [true] ev__law_number) :=
  ok_def (N := N__law_number) (k := 1) (b := b__law_number) T.F__law_number sc__law_number rfl fun cdv A outer s H E hr => ⟨_,
    (pss_cons (ps_set (i := 1) sc__law_number.nd rfl (.inl rfl) (pe_call (ok__law_take T) (hr.mono (by decide)) (by rfl) T.g__law_take T.F__law_take.kp T.b__law_take .nil pass0 (pa_cons (pv 0) (pa_cons pe_int pa_nil))))
      (pss_cons (ps_set (i := 2) sc__law_number.nd rfl (.inl rfl) (pe_op o_add pe_int (pe_call (ok__law_take T) (hr.mono (by decide)) (by rfl) T.g__law_take T.F__law_take.kp T.b__law_take .nil pass0 (pa_cons (pv 0) (pa_cons pe_int pa_nil)))))
      (pss_cons (ps_set (i := 3) sc__law_number.nd rfl (.inl rfl) pe_int)
      (pss_cons (ps_if (pt_cmpR op_gt (pv 1) pe_int (nomark _)) (pss_one (ps_set (i := 3) sc__law_number.nd rfl (.inl rfl) (pe_op o_add pe_int (pe_call (ok__law_take T) (hr.mono (by decide)) (by rfl) T.g__law_take T.F__law_take.kp T.b__law_take .nil pass0 (pa_cons (pv 0) (pa_cons pe_int pa_nil)))))) pss_nil)
      (pss_cons (ps_if (pt_cmpR (op_eqD hr.units) (pv 1) pe_int (nomark _)) (pss_cons (ps_set (i := 2) sc__law_number.nd rfl (.inl rfl) (pe_op o_add pe_int (pe_call (ok__law_take T) (hr.mono (by decide)) (by rfl) T.g__law_take T.F__law_take.kp T.b__law_take .nil pass0 (pa_cons (pv 0) (pa_cons pe_int pa_nil)))))
      (pss_one (ps_set (i := 3) sc__law_number.nd rfl (.inl rfl) (pe_op o_add pe_int (pe_call (ok__law_take T) (hr.mono (by decide)) (by rfl) T.g__law_take T.F__law_take.kp T.b__law_take .nil pass0 (pa_cons (pv 0) (pa_cons pe_int pa_nil))))))) pss_nil)
      (pss_one (ps_ret (pe_call (ok__law_low T) (hr.mono (by decide)) (by rfl) T.g__law_low T.F__law_low.kp T.b__law_low .nil pass0 (pa_cons (pe_op o_mul (pv 2) (pe_op o_sub pe_int (pe_op o_mul pe_int (pe_call (ok__law_take T) (hr.mono (by decide)) (by rfl) T.g__law_take T.F__law_take.kp T.b__law_take .nil pass0 (pa_cons (pv 0) (pa_cons pe_int pa_nil)))))) (pa_cons (pv 3) pa_nil)))))))))),
    (ss_seq (ss_asg (snd_call (sa_cons (snd_var 0) (sa_cons (snd_int _) sa_nil))) (sg_name 1))
      (ss_seq (ss_asg (snd_2 (snd_int _) (snd_call (sa_cons (snd_var 0) (sa_cons (snd_int _) sa_nil))) q_add) (sg_name 2))
      (ss_seq (ss_asg (snd_int _) (sg_name 3))
      (ss_cut (ss_seq (ss_if (st_test (snd_2 (snd_var 1) (snd_int _) q_gt)) (ss_asg (snd_2 (snd_int _) (snd_call (sa_cons (snd_var 0) (sa_cons (snd_int _) sa_nil))) q_add) (sg_name 3)) ss_next)
      (ss_cut (ss_seq (ss_if (st_test (snd_2 (snd_var 1) (snd_int _) op2_eq)) (ss_seq (ss_asg (snd_2 (snd_int _) (snd_call (sa_cons (snd_var 0) (sa_cons (snd_int _) sa_nil))) q_add) (sg_name 2))
      (ss_asg (snd_2 (snd_int _) (snd_call (sa_cons (snd_var 0) (sa_cons (snd_int _) sa_nil))) q_add) (sg_name 3))) ss_next)
      (ss_ret (snd_call (sa_cons (snd_2 (snd_var 2) (snd_2 (snd_int _) (snd_2 (snd_int _) (snd_call (sa_cons (snd_var 0) (sa_cons (snd_int _) sa_nil))) q_mul) q_sub) q_mul) (sa_cons (snd_var 3) sa_nil)))))))))))⟩
theorem ok__law_sum_by (T : Txt K mg) : FnOk P w K mg base CX0 3 T.a__law_sum_by T.d__law_sum_by P__law_sum_by (spD K [true, false, false] ev__law_sum_by) :=
  ok_def (N := N__law_sum_by) (k := 2) (b := b__law_sum_by) T.F__law_sum_by sc__law_sum_by rfl fun cdv A outer s H E hr => ⟨_,
    (pss_cons (ps_set (i := 3) sc__law_sum_by.nd rfl (.inl rfl) pe_dnewT)
      (pss_cons (ps_for PassesOwn.never rfl (pi_range1 rfl T.m_range (pa_cons (pe_op o_add pe_int (pe_call (ok__law_take T) (hr.mono (by decide)) (by rfl) T.g__law_take T.F__law_take.kp T.b__law_take .nil pass0 (pa_cons (pv 0) (pa_cons (pv 1) pa_nil)))) pa_nil)) (pg_name (i := 4) sc__law_sum_by.nd rfl (.inl rfl)) (pss_cons (ps_set (i := 5) sc__law_sum_by.nd rfl (.inl rfl) (pe_op o_sub (pe_call (ok__law_take T) (hr.mono (by decide)) (by rfl) T.g__law_take T.F__law_take.kp T.b__law_take .nil pass0 (pa_cons (pv 0) (pa_cons (pe_op o_add (pe_op o_mul pe_int (pv 2)) pe_int) pa_nil))) (pv 2)))
      (pss_one (ps_asg (pe_call (ok__law_number T) (hr.mono (by decide)) (by rfl) T.g__law_number T.F__law_number.kp T.b__law_number .nil pass0 (pa_cons (pv 0) pa_nil)) (pg_sub (pv 3) (pe_tup (pa_cons (pv 5) (pa_cons (pe_op o_sub (pe_call (ok__law_take T) (hr.mono (by decide)) (by rfl) T.g__law_take T.F__law_take.kp T.b__law_take .nil pass0 (pa_cons (pv 0) (pa_cons (pe_op o_add (pe_op o_mul pe_int (pv 2)) pe_int) pa_nil))) (pv 2)) pa_nil))) (set_dict (hu1 hr.units)))))))
      (pss_one (ps_ret (pe_call (ok__law_told T) (hr.mono (by decide)) (by rfl) T.g__law_told T.F__law_told.kp T.b__law_told .nil pass0 (pa_cons (pv 3) pa_nil)))))),
    (ss_seq ss_dnew
      (ss_seq (ss_for (si_range1 (sa_cons (snd_2 (snd_int _) (snd_call (sa_cons (snd_var 0) (sa_cons (snd_var 1) sa_nil))) q_add) sa_nil)) (sg_name 4) (ss_seq (ss_asg (snd_2 (snd_call (sa_cons (snd_var 0) (sa_cons (snd_2 (snd_2 (snd_int _) (snd_var 2) q_mul) (snd_int _) q_add) sa_nil))) (snd_var 2) q_sub) (sg_name 5))
      (ss_dput (snd_call (sa_cons (snd_var 0) sa_nil)) (snd_tupN (sa_cons (snd_var 5) (sa_cons (snd_2 (snd_call (sa_cons (snd_var 0) (sa_cons (snd_2 (snd_2 (snd_int _) (snd_var 2) q_mul) (snd_int _) q_add) sa_nil))) (snd_var 2) q_sub) sa_nil))))))
      (ss_frzD (i := 3) (ss_ret (snd_call (sa_cons (snd_var 3) sa_nil))))))⟩
theorem at__law_class_Nought (T : Txt K mg) {a : Addr} {oe : Obj} (hz : L2N.Zn (.ref T.c_Nought) none oe) (hf : ∃ vs, oe.data = .fields vs) : FnAt P w K mg base 1 T.a__law_class T.d__law_class P__law_class (a, oe) (fun vs H Q _ => vs = [.ref a] ∧ ∀ H', Same H H' → Q (.str (kc_law_class 1)) H') :=
  fnAt_of (N := N__law_class) (k := 0) T.F__law_class sc__law_class (fun vs H Q E h => by rw [h.1]; rfl) fun cdv A outer s H vs Q E hot hr h => ⟨_,
    (pss_cons (ps_set (i := 1) sc__law_class.nd rfl (.inl rfl) (pe_lst (pa_cons (pe_callB (call_isAt (ec_Nought T) (List.mem_cons_self) hz.zc hf) (by rfl) T.m_isinstance bt_isinstance (pa_cons (pv 0) (pa_cons (pe_glob (v := .ref T.c_Nought) rfl T.gC_Nought rfl) pa_nil))) (pa_cons (pe_callB (call_isAt (ec_Nought T) (List.mem_cons_self) hz.zc hf) (by rfl) T.m_isinstance bt_isinstance (pa_cons (pv 0) (pa_cons (pe_glob (v := .ref T.c_TooMuch) rfl T.gC_TooMuch rfl) pa_nil))) (pa_cons (pe_callB (call_isAt (ec_Nought T) (List.mem_cons_self) hz.zc hf) (by rfl) T.m_isinstance bt_isinstance (pa_cons (pv 0) (pa_cons (pe_glob (v := .ref T.c_CommonPart) rfl T.gC_CommonPart rfl) pa_nil))) (pa_cons (pe_callB (call_isAt (ec_Nought T) (List.mem_cons_self) hz.zc hf) (by rfl) T.m_isinstance bt_isinstance (pa_cons (pv 0) (pa_cons (pe_glob (v := .ref T.c_NoPart) rfl T.gC_NoPart rfl) pa_nil))) pa_nil))))))
      (pss_cons (ps_set (i := 1) sc__law_class.nd rfl (.inl rfl) (pe_op o_add (pv 1) (pe_lst (pa_cons (pe_callB (call_isAt (ec_Nought T) (List.mem_cons_self) hz.zc hf) (by rfl) T.m_isinstance bt_isinstance (pa_cons (pv 0) (pa_cons (pe_glob (v := .ref T.c_NoRatio) rfl T.gC_NoRatio rfl) pa_nil))) (pa_cons (pe_callB (call_isAt (ec_Nought T) (List.mem_cons_self) hz.zc hf) (by rfl) T.m_isinstance bt_isinstance (pa_cons (pv 0) (pa_cons (pe_glob (v := .ref T.c_NoSide) rfl T.gC_NoSide rfl) pa_nil))) (pa_cons (pe_callB (call_isAt (ec_Nought T) (List.mem_cons_self) hz.zc hf) (by rfl) T.m_isinstance bt_isinstance (pa_cons (pv 0) (pa_cons (pe_glob (v := .ref T.c_NoStep) rfl T.gC_NoStep rfl) pa_nil))) (pa_cons (pe_callB (call_isAt (ec_Nought T) (List.mem_cons_self) hz.zc hf) (by rfl) T.m_isinstance bt_isinstance (pa_cons (pv 0) (pa_cons (pe_glob (v := .ref T.c_NoTable) rfl T.gC_NoTable rfl) pa_nil))) pa_nil)))))))
      (pss_cons (ps_set (i := 1) sc__law_class.nd rfl (.inl rfl) (pe_op o_add (pv 1) (pe_lst (pa_cons (pe_callB (call_isAt (ec_Nought T) (List.mem_cons_self) hz.zc hf) (by rfl) T.m_isinstance bt_isinstance (pa_cons (pv 0) (pa_cons (pe_glob (v := .ref T.c_NoText) rfl T.gC_NoText rfl) pa_nil))) (pa_cons (pe_callB (call_isAt (ec_Nought T) (List.mem_cons_self) hz.zc hf) (by rfl) T.m_isinstance bt_isinstance (pa_cons (pv 0) (pa_cons (pe_glob (v := .ref T.c_NoName) rfl T.gC_NoName rfl) pa_nil))) pa_nil)))))
      (pss_cons (ps_if (PW.pt (pw_or (pt_cmpR (op_neD hr.units) (pe_bm PySem.F.plainAttrs_list PySem.F.slot_list_count PySem.F.type_list_count (mt_countD hr.u65) (pv 1) (pa_cons pe_bl pa_nil)) pe_int (nomark _)) (pw_or1 (pt_not (pt_val (pe_callB (call_isAt (ec_Nought T) (List.mem_cons_self) hz.zc hf) (by rfl) T.m_isinstance bt_isinstance (pa_cons (pv 0) (pa_cons (pe_bltn (v := .ty "ValueError") (by rfl) T.m_ValueError bt_ValueError rfl) pa_nil)))))))) (pss_one (ps_ret pe_str)) pss_nil)
      (pss_one (ps_ret (pe_ix ix_seq (pe_lst (pa_cons pe_str (pa_cons pe_str (pa_cons pe_str (pa_cons pe_str (pa_cons pe_str (pa_cons pe_str (pa_cons pe_str (pa_cons pe_str (pa_cons pe_str (pa_cons pe_str pa_nil))))))))))) (pe_bm PySem.F.plainAttrs_list PySem.F.slot_list_index PySem.F.type_list_index (mt_indexD hr.u65) (pv 1) (pa_cons pe_bl pa_nil)) (fun _ _ => rfl)))))))),
    by
      obtain ⟨rfl, q⟩ := h
      obtain ⟨e, he⟩ := ek__law_class_Nought a
      exact adr_body (n := 1) rfl
        (ss_seq (ss_asg (snd_lst (sa_cons (snd_isE (fun u r => by cases r; rfl) T.kt_Nought_Nought) (sa_cons (snd_isE (fun u r => by cases r; rfl) T.kt_Nought_TooMuch) (sa_cons (snd_isE (fun u r => by cases r; rfl) T.kt_Nought_CommonPart) (sa_cons (snd_isE (fun u r => by cases r; rfl) T.kt_Nought_NoPart) sa_nil))))) (sg_name 1))
      (ss_seq (ss_asg (snd_2 (snd_var 1) (snd_lst (sa_cons (snd_isE (fun u r => by cases r; rfl) T.kt_Nought_NoRatio) (sa_cons (snd_isE (fun u r => by cases r; rfl) T.kt_Nought_NoSide) (sa_cons (snd_isE (fun u r => by cases r; rfl) T.kt_Nought_NoStep) (sa_cons (snd_isE (fun u r => by cases r; rfl) T.kt_Nought_NoTable) sa_nil))))) q_add) (sg_name 1))
      (ss_seq (ss_asg (snd_2 (snd_var 1) (snd_lst (sa_cons (snd_isE (fun u r => by cases r; rfl) T.kt_Nought_NoText) (sa_cons (snd_isE (fun u r => by cases r; rfl) T.kt_Nought_NoName) sa_nil))) q_add) (sg_name 1))
      (ss_seq (ss_if (st_or (st_test (snd_2 (snd_m1 op2_count (fun x y H Q h => ⟨y, rfl, h⟩) (snd_bl _)) (snd_int _) op2_ne)) (st_not (st_B (snd_isE (fun u r => by cases r; rfl) T.kt_Nought_ValueError)))) (ss_ret (snd_str _)) ss_next)
      (ss_ret (snd_2 (snd_lst (sa_cons (snd_str _) (sa_cons (snd_str _) (sa_cons (snd_str _) (sa_cons (snd_str _) (sa_cons (snd_str _) (sa_cons (snd_str _) (sa_cons (snd_str _) (sa_cons (snd_str _) (sa_cons (snd_str _) (sa_cons (snd_str _) sa_nil))))))))))) (snd_m1 op2_index (fun x y H Q h => h) (snd_bl _)) op2_ix))))))
        he dq_str q⟩
theorem ok__law_asked (T : Txt K mg) : FnOk P w K mg base CX0 4 T.a__law_asked T.d__law_asked P__law_asked (spD K [false, false, false] ev__law_asked) :=
  ok_def (N := N__law_asked) (k := 3) (b := b__law_asked) T.F__law_asked sc__law_asked rfl fun cdv A outer s H E hr => ⟨_,
    (pss_cons (L2N.ps_try_as (i := 3) (ts := tsOf (clOf T) [1] (fun a n => (tKd 3 a (.str (kc_law_class n))))) (Wout := fun _ _ _ _ => False) rfl rfl sc__law_asked.nd rfl rfl ⟨by rfl, by decide, .inl T.gC_MeetError⟩ takesN (fun W pn xe tk po => (pss_one (ps_if (pt_cmpR (op_eqD hr.units) (pv 0) pe_int (nomark _)) (pss_one (ps_expr (pe_callS (okx_eliminant T) (hr.mono (by decide)) (by rfl) T.g_eliminant T.F_eliminant.kp T.b_eliminant (fun σ => L2N.passAt tk σ) (pa_cons (pv 1) (pa_cons (pv 2) pa_nil))))) (pss_one (ps_if (pt_cmpR (op_eqD hr.units) (pv 0) pe_int (nomark _)) (pss_one (ps_expr (pe_callS (okx_common T) (hr.mono (by decide)) (by rfl) T.g_common T.F_common.kp T.b_common (fun σ => L2N.passAt tk σ) (pa_cons (pv 1) (pa_cons (pv 2) pa_nil))))) (pss_one (ps_if (pt_cmpR (op_eqD hr.units) (pv 0) pe_int (nomark _)) (pss_one (ps_expr (pe_makeS T.M_Rests (okx_Rests__init__ T) (hr.mono (by decide)) (by rfl) T.gC_Rests T.b_Rests__init__ (fun σ => L2N.passAt tk σ) (pa_cons (pv 1) (pa_cons (pv 2) pa_nil))))) (pss_one (ps_expr (pe_callS (okx_parted T) (hr.mono (by decide)) (by rfl) T.g_parted T.F_parted.kp T.b_parted (fun σ => L2N.passAt tk σ) (pa_cons (pv 1) (pa_cons (pv 2) pa_nil)))))))))))) (fun a oe cls d pn hz hf => pss_tsOf (List.forall_mem_cons.mpr ⟨(fun e1 e2 => by subst e1 e2; exact pss_one (ps_ret (pe_callAt (i := 3) (at__law_class_Nought T hz hf) (hr.mono (by decide)) (ctxN hz hf) (by rfl) T.g__law_class T.F__law_class.kp T.b__law_class (pv 3)))), (fun _ h => nomatch h)⟩)))
      (pss_one (ps_ret pe_str))),
    (ss_seq (ss_tryT (cl := clOf T) (fun WX => (ss_if (st_test (snd_2 (snd_var 0) (snd_int _) op2_eq)) (ss_dropX (sndX_call (sa_cons (snd_var 1) (sa_cons (snd_var 2) sa_nil)))) (ss_if (st_test (snd_2 (snd_var 0) (snd_int _) op2_eq)) (ss_dropX (sndX_call (sa_cons (snd_var 1) (sa_cons (snd_var 2) sa_nil)))) (ss_if (st_test (snd_2 (snd_var 0) (snd_int _) op2_eq)) (ss_dropX (sndX_makeX (n := 1) (sa_cons (snd_var 1) (sa_cons (snd_var 2) sa_nil)))) (ss_dropX (sndX_call (sa_cons (snd_var 1) (sa_cons (snd_var 2) sa_nil)))))))) (List.forall_mem_cons.mpr ⟨T.xm_Nought_MeetError, (fun _ h => nomatch h)⟩) (List.forall_mem_cons.mpr ⟨(fun a σ hσ => (sndAt_kd (fun _ => .str _) hσ)), (fun _ h => nomatch h)⟩))
      (ss_ret (snd_str _)))⟩
theorem ok_law (T : Txt K mg) : FnOk P w K mg base CX0 5 T.a_law T.d_law P_law (spD K [false] ev_law) :=
  ok_def (N := N_law) (k := 4) (b := b_law) T.F_law sc_law rfl fun cdv A outer s H E hr => ⟨_,
    (pss_cons (ps_set (i := 1) sc_law.nd rfl (.inl rfl) (pe_call (ok__law_sum_by T) (hr.mono (by decide)) (by rfl) T.g__law_sum_by T.F__law_sum_by.kp T.b__law_sum_by .nil pass0 (pa_cons (pe_call (ok__law_pool T) (hr.mono (by decide)) (by rfl) T.g__law_pool T.F__law_pool.kp T.b__law_pool .nil pass0 (pa_cons (pv 0) (pa_cons pe_int pa_nil))) (pa_cons pe_int (pa_cons pe_int pa_nil)))))
      (pss_cons (ps_set (i := 2) sc_law.nd rfl (.inl rfl) (pe_callTy call_list_of (by rfl) T.m_list bt_list (pa_cons (pv 1) pa_nil)))
      (pss_cons (ps_for PassesOwn.never rfl (pi_range1 rfl T.m_range (pa_cons pe_int pa_nil)) (pg_name (i := 3) sc_law.nd rfl (.inl rfl)) (pss_one (ps_for PassesOwn.never rfl (pi_list (pe_lst (pa_cons (pe_tup (pa_cons (pv 2) (pa_cons (pe_lst pa_nil) pa_nil))) (pa_cons (pe_tup (pa_cons (pe_lst pa_nil) (pa_cons (pv 2) pa_nil))) (pa_cons (pe_tup (pa_cons (pe_lst pa_nil) (pa_cons (pe_lst pa_nil) pa_nil))) pa_nil))))) (pg_tup rfl (pgs_cons (pg_name (i := 4) sc_law.nd rfl (.inl rfl)) (pgs_cons (pg_name (i := 5) sc_law.nd rfl (.inl rfl)) pgs_nil))) (pss_one (ps_if (PW.pt (pw_or (pt_cmpR (op_neD hr.units) (pe_call (ok__law_asked T) (hr.mono (by decide)) (by rfl) T.g__law_asked T.F__law_asked.kp T.b__law_asked .nil pass0 (pa_cons (pv 3) (pa_cons (pv 4) (pa_cons (pv 5) pa_nil)))) pe_str (nomark _)) (pw_or1 (pt_cmpR (op_neD hr.units) (pv 2) (pv 1) (nomark _))))) (pss_one (ps_ret pe_bl)) pss_nil)))))
      (pss_one (ps_ret (pe_and (pe_cmpR (op_eqD hr.units) (pe_call (ok__law_asked T) (hr.mono (by decide)) (by rfl) T.g__law_asked T.F__law_asked.kp T.b__law_asked .nil pass0 (pa_cons pe_int (pa_cons (pv 2) (pa_cons (pe_lst pa_nil) pa_nil)))) pe_str (nomark _)) (pe_and (pe_cmpR (op_eqD hr.units) (pe_call (ok__law_asked T) (hr.mono (by decide)) (by rfl) T.g__law_asked T.F__law_asked.kp T.b__law_asked .nil pass0 (pa_cons pe_int (pa_cons (pe_lst pa_nil) (pa_cons (pe_lst pa_nil) pa_nil)))) pe_str (nomark _)) (pe_one (pe_cmpR (op_eqD hr.units) (pv 2) (pv 1) (nomark _)))))))))),
    (ss_seq (ss_asg (snd_callN2 (snd_call (sa_cons (snd_var 0) (sa_cons (snd_int _) sa_nil)))) (sg_name 1))
      (ss_seq (ss_asg (snd_b (sa_cons (snd_var 1) sa_nil) cg_list) (sg_name 2))
      (ss_seq (ss_for (si_range1 (sa_cons (snd_int _) sa_nil)) (sg_name 3) (ss_for (si_list (snd_lst (sa_cons (snd_tup (sa_cons (snd_var 2) (sa_cons (snd_lst sa_nil) sa_nil))) (sa_cons (snd_tup (sa_cons (snd_lst sa_nil) (sa_cons (snd_var 2) sa_nil))) (sa_cons (snd_tup (sa_cons (snd_lst sa_nil) (sa_cons (snd_lst sa_nil) sa_nil))) sa_nil))))) (sg_tup (sgs_cons (sg_name 4) (sgs_cons (sg_name 5) sgs_nil))) (ss_if (st_or (st_test (snd_2 (snd_call (sa_cons (snd_var 3) (sa_cons (snd_var 4) (sa_cons (snd_var 5) sa_nil)))) (snd_str _) op2_ne)) (st_test (snd_2 (snd_var 2) (snd_var 1) op2_ne))) (ss_ret (snd_bl _)) ss_next)))
      (ss_ret (snd_and (snd_2 (snd_call (sa_cons (snd_int _) (sa_cons (snd_var 2) (sa_cons (snd_lst sa_nil) sa_nil)))) (snd_str _) op2_eq) (snd_and (snd_2 (snd_call (sa_cons (snd_int _) (sa_cons (snd_lst sa_nil) (sa_cons (snd_lst sa_nil) sa_nil)))) (snd_str _) op2_eq) (snd_2 (snd_var 2) (snd_var 1) op2_eq)))))))⟩
end
def mk {K : PySem.W.Frag} {h : Heap} {mg : Str → Option Value} (X : K.In h) (G : h.Ns mainGlobals mg)
    {cc_MeetError : Addr}
    {cc_NoRatio : Addr}
    {cc_Nought : Addr}
    {cc_NoTable : Addr}
    {cc_NoStep : Addr}
    {cc_NoSide : Addr}
    {cc_NoPart : Addr}
    {cc_TooMuch : Addr}
    {cc_CommonPart : Addr}
    {cc_NoText : Addr}
    {cc_NoName : Addr}
    {cc_Rests : Addr}
    {f_look_sums : Addr} {od_look_sums an_look_sums : Option Addr} {sl_look_sums : Array (Option Value)} {oc_look_sums kV_look_sums dc_look_sums pm_look_sums cd_look_sums ct_look_sums : Value}
    {f_eliminant : Addr} {od_eliminant an_eliminant : Option Addr} {sl_eliminant : Array (Option Value)} {oc_eliminant kV_eliminant dc_eliminant pm_eliminant cd_eliminant ct_eliminant : Value}
    {f_common : Addr} {od_common an_common : Option Addr} {sl_common : Array (Option Value)} {oc_common kV_common dc_common pm_common cd_common ct_common : Value}
    {f_parted : Addr} {od_parted an_parted : Option Addr} {sl_parted : Array (Option Value)} {oc_parted kV_parted dc_parted pm_parted cd_parted ct_parted : Value}
    {f_Rests__init__ : Addr} {od_Rests__init__ an_Rests__init__ : Option Addr} {sl_Rests__init__ : Array (Option Value)} {oc_Rests__init__ kV_Rests__init__ dc_Rests__init__ pm_Rests__init__ cd_Rests__init__ ct_Rests__init__ : Value}
    {f__law_pool : Addr} {od__law_pool an__law_pool : Option Addr} {sl__law_pool : Array (Option Value)} {oc__law_pool kV__law_pool dc__law_pool pm__law_pool cd__law_pool ct__law_pool : Value}
    {f__law_take : Addr} {od__law_take an__law_take : Option Addr} {sl__law_take : Array (Option Value)} {oc__law_take kV__law_take dc__law_take pm__law_take cd__law_take ct__law_take : Value}
    {f__law_low : Addr} {od__law_low an__law_low : Option Addr} {sl__law_low : Array (Option Value)} {oc__law_low kV__law_low dc__law_low pm__law_low cd__law_low ct__law_low : Value}
    {f__law_told : Addr} {od__law_told an__law_told : Option Addr} {sl__law_told : Array (Option Value)} {oc__law_told kV__law_told dc__law_told pm__law_told cd__law_told ct__law_told : Value}
    {f__law_number : Addr} {od__law_number an__law_number : Option Addr} {sl__law_number : Array (Option Value)} {oc__law_number kV__law_number dc__law_number pm__law_number cd__law_number ct__law_number : Value}
    {f__law_sum_by : Addr} {od__law_sum_by an__law_sum_by : Option Addr} {sl__law_sum_by : Array (Option Value)} {oc__law_sum_by kV__law_sum_by dc__law_sum_by pm__law_sum_by cd__law_sum_by ct__law_sum_by : Value}
    {f__law_class : Addr} {od__law_class an__law_class : Option Addr} {sl__law_class : Array (Option Value)} {oc__law_class kV__law_class dc__law_class pm__law_class cd__law_class ct__law_class : Value}
    {f__law_asked : Addr} {od__law_asked an__law_asked : Option Addr} {sl__law_asked : Array (Option Value)} {oc__law_asked kV__law_asked dc__law_asked pm__law_asked cd__law_asked ct__law_asked : Value}
    {f_law : Addr} {od_law an_law : Option Addr} {sl_law : Array (Option Value)} {oc_law kV_law dc_law pm_law cd_law ct_law : Value}
    (z_ValueError : PySem.W.nsIn K mainGlobals "ValueError" = some none)
    (z_abs : PySem.W.nsIn K mainGlobals "abs" = some none)
    (z_isinstance : PySem.W.nsIn K mainGlobals "isinstance" = some none)
    (z_len : PySem.W.nsIn K mainGlobals "len" = some none)
    (z_list : PySem.W.nsIn K mainGlobals "list" = some none)
    (z_range : PySem.W.nsIn K mainGlobals "range" = some none)
    (z_sorted : PySem.W.nsIn K mainGlobals "sorted" = some none)
    (cg_MeetError : PySem.W.nsIn K mainGlobals "MeetError" = some (some (.ref cc_MeetError)))
    (cg_NoRatio : PySem.W.nsIn K mainGlobals "NoRatio" = some (some (.ref cc_NoRatio)))
    (cg_Nought : PySem.W.nsIn K mainGlobals "Nought" = some (some (.ref cc_Nought)))
    (cg_NoTable : PySem.W.nsIn K mainGlobals "NoTable" = some (some (.ref cc_NoTable)))
    (cg_NoStep : PySem.W.nsIn K mainGlobals "NoStep" = some (some (.ref cc_NoStep)))
    (cg_NoSide : PySem.W.nsIn K mainGlobals "NoSide" = some (some (.ref cc_NoSide)))
    (cg_NoPart : PySem.W.nsIn K mainGlobals "NoPart" = some (some (.ref cc_NoPart)))
    (cg_TooMuch : PySem.W.nsIn K mainGlobals "TooMuch" = some (some (.ref cc_TooMuch)))
    (cg_CommonPart : PySem.W.nsIn K mainGlobals "CommonPart" = some (some (.ref cc_CommonPart)))
    (cg_NoText : PySem.W.nsIn K mainGlobals "NoText" = some (some (.ref cc_NoText)))
    (cg_NoName : PySem.W.nsIn K mainGlobals "NoName" = some (some (.ref cc_NoName)))
    (cg_Rests : PySem.W.nsIn K mainGlobals "Rests" = some (some (.ref cc_Rests)))
    (hd_Nought : PySem.W.hasDictIn K cc_Nought = true)
    (ht_Nought : PySem.W.typeIn K (.ref cc_Nought) = some (.type "type"))
    (hd_TooMuch : PySem.W.hasDictIn K cc_TooMuch = true)
    (ht_TooMuch : PySem.W.typeIn K (.ref cc_TooMuch) = some (.type "type"))
    (hd_CommonPart : PySem.W.hasDictIn K cc_CommonPart = true)
    (ht_CommonPart : PySem.W.typeIn K (.ref cc_CommonPart) = some (.type "type"))
    (hd_NoPart : PySem.W.hasDictIn K cc_NoPart = true)
    (ht_NoPart : PySem.W.typeIn K (.ref cc_NoPart) = some (.type "type"))
    (hd_NoRatio : PySem.W.hasDictIn K cc_NoRatio = true)
    (ht_NoRatio : PySem.W.typeIn K (.ref cc_NoRatio) = some (.type "type"))
    (hd_NoSide : PySem.W.hasDictIn K cc_NoSide = true)
    (ht_NoSide : PySem.W.typeIn K (.ref cc_NoSide) = some (.type "type"))
    (hd_NoStep : PySem.W.hasDictIn K cc_NoStep = true)
    (ht_NoStep : PySem.W.typeIn K (.ref cc_NoStep) = some (.type "type"))
    (hd_NoTable : PySem.W.hasDictIn K cc_NoTable = true)
    (ht_NoTable : PySem.W.typeIn K (.ref cc_NoTable) = some (.type "type"))
    (hd_NoText : PySem.W.hasDictIn K cc_NoText = true)
    (ht_NoText : PySem.W.typeIn K (.ref cc_NoText) = some (.type "type"))
    (hd_NoName : PySem.W.hasDictIn K cc_NoName = true)
    (ht_NoName : PySem.W.typeIn K (.ref cc_NoName) = some (.type "type"))
    (hd_MeetError : PySem.W.hasDictIn K cc_MeetError = true)
    (ht_MeetError : PySem.W.typeIn K (.ref cc_MeetError) = some (.type "type"))
    (hb_MeetError : PySem.W.subIn K (.ref cc_MeetError) (.type "BaseException") = some true)
    (sb_Nought_Nought : PySem.W.subIn K (.ref cc_Nought) (.ref cc_Nought) = some true)
    (sb_Nought_TooMuch : PySem.W.subIn K (.ref cc_Nought) (.ref cc_TooMuch) = some false)
    (sb_Nought_CommonPart : PySem.W.subIn K (.ref cc_Nought) (.ref cc_CommonPart) = some false)
    (sb_Nought_NoPart : PySem.W.subIn K (.ref cc_Nought) (.ref cc_NoPart) = some false)
    (sb_Nought_NoRatio : PySem.W.subIn K (.ref cc_Nought) (.ref cc_NoRatio) = some false)
    (sb_Nought_NoSide : PySem.W.subIn K (.ref cc_Nought) (.ref cc_NoSide) = some false)
    (sb_Nought_NoStep : PySem.W.subIn K (.ref cc_Nought) (.ref cc_NoStep) = some false)
    (sb_Nought_NoTable : PySem.W.subIn K (.ref cc_Nought) (.ref cc_NoTable) = some false)
    (sb_Nought_NoText : PySem.W.subIn K (.ref cc_Nought) (.ref cc_NoText) = some false)
    (sb_Nought_NoName : PySem.W.subIn K (.ref cc_Nought) (.ref cc_NoName) = some false)
    (sb_Nought_MeetError : PySem.W.subIn K (.ref cc_Nought) (.ref cc_MeetError) = some true)
    (sv_Nought : PySem.W.subIn K (.ref cc_Nought) (.type "ValueError") = some true)
    (yq_Nought : PySem.W.excIn K cc_Nought [.type "ValueError", .type "Exception", .type "BaseException", .type "object"] "ValueError.__new__" = true)
    (ykC_Nought : PySem.W.keepIn K (.ref cc_Nought) = true)
    (yr1_Nought : PySem.W.subIn K (.ref cc_Nought) (.type "BaseException") = some true)
    (yr2_Nought : PySem.W.typeIn K (.ref cc_Nought) = some (.type "type"))
    (yx1_Nought : PySem.W.findIn K (.ref cc_Nought) "__getattribute__" = some (some (.builtin "BaseException.__getattribute__")))
    (yx2_Nought : PySem.W.findIn K (.ref cc_Nought) "__getattr__" = some none)
    (yx3_Nought : PySem.W.hasDictIn K cc_Nought = true)
    (yx4_Nought : PySem.W.findIn K (.ref cc_Nought) "__class__" = some (some (.builtin "object.__class__")))
    (yx5_Nought : PySem.W.specialIn K (.builtin "object.__class__") "__get__" = some (some (.builtin "getset_descriptor.__get__")))
    (yx6_Nought : PySem.W.takesIn K (.builtin "object.__class__") = some true)
    (yx7_Nought : PySem.W.mroIn K cc_Nought (.type "object") = some true)
    (a_look_sums : PySem.W.nsIn K mainGlobals "look_sums" = some (some (.ref f_look_sums)))
    (l_look_sums : K.lookup f_look_sums = some ⟨oc_look_sums, od_look_sums, .func (PySem.W.fnOf "look_sums" "look_sums" (defArgs st_look_sums) (defBody st_look_sums) (defScope st_look_sums) .none kV_look_sums dc_look_sums pm_look_sums an_look_sums cd_look_sums ct_look_sums), sl_look_sums⟩)
    (c_look_sums : PySem.W.codeIn K cd_look_sums "look_sums" = true)
    (k_look_sums : PySem.W.keepIn K (.ref f_look_sums) = true)
    (a_eliminant : PySem.W.nsIn K mainGlobals "eliminant" = some (some (.ref f_eliminant)))
    (l_eliminant : K.lookup f_eliminant = some ⟨oc_eliminant, od_eliminant, .func (PySem.W.fnOf "eliminant" "eliminant" (defArgs st_eliminant) (defBody st_eliminant) (defScope st_eliminant) .none kV_eliminant dc_eliminant pm_eliminant an_eliminant cd_eliminant ct_eliminant), sl_eliminant⟩)
    (c_eliminant : PySem.W.codeIn K cd_eliminant "eliminant" = true)
    (k_eliminant : PySem.W.keepIn K (.ref f_eliminant) = true)
    (a_common : PySem.W.nsIn K mainGlobals "common" = some (some (.ref f_common)))
    (l_common : K.lookup f_common = some ⟨oc_common, od_common, .func (PySem.W.fnOf "common" "common" (defArgs st_common) (defBody st_common) (defScope st_common) .none kV_common dc_common pm_common an_common cd_common ct_common), sl_common⟩)
    (c_common : PySem.W.codeIn K cd_common "common" = true)
    (k_common : PySem.W.keepIn K (.ref f_common) = true)
    (a_parted : PySem.W.nsIn K mainGlobals "parted" = some (some (.ref f_parted)))
    (l_parted : K.lookup f_parted = some ⟨oc_parted, od_parted, .func (PySem.W.fnOf "parted" "parted" (defArgs st_parted) (defBody st_parted) (defScope st_parted) .none kV_parted dc_parted pm_parted an_parted cd_parted ct_parted), sl_parted⟩)
    (c_parted : PySem.W.codeIn K cd_parted "parted" = true)
    (k_parted : PySem.W.keepIn K (.ref f_parted) = true)
    (m1_Rests : PySem.W.makesIn K cc_Rests = true)
    (m2_Rests : PySem.W.findIn K (.ref cc_Rests) "__init__" = some (some (.ref f_Rests__init__)))
    (m3_Rests : PySem.W.isFn K (.ref f_Rests__init__) = true)
    (m4_Rests : PySem.W.keepIn K (.ref cc_Rests) = true)
    (l_Rests__init__ : K.lookup f_Rests__init__ = some ⟨oc_Rests__init__, od_Rests__init__, .func (PySem.W.fnOf "__init__" "Rests.__init__" (defArgs st_Rests__init__) (defBody st_Rests__init__) (defScope st_Rests__init__) .none kV_Rests__init__ dc_Rests__init__ pm_Rests__init__ an_Rests__init__ cd_Rests__init__ ct_Rests__init__), sl_Rests__init__⟩)
    (c_Rests__init__ : PySem.W.codeIn K cd_Rests__init__ "Rests.__init__" = true)
    (k_Rests__init__ : PySem.W.keepIn K (.ref f_Rests__init__) = true)
    (a__law_pool : PySem.W.nsIn K mainGlobals "_law_pool" = some (some (.ref f__law_pool)))
    (l__law_pool : K.lookup f__law_pool = some ⟨oc__law_pool, od__law_pool, .func (PySem.W.fnOf "_law_pool" "_law_pool" (defArgs st__law_pool) (defBody st__law_pool) (defScope st__law_pool) .none kV__law_pool dc__law_pool pm__law_pool an__law_pool cd__law_pool ct__law_pool), sl__law_pool⟩)
    (c__law_pool : PySem.W.codeIn K cd__law_pool "_law_pool" = true)
    (k__law_pool : PySem.W.keepIn K (.ref f__law_pool) = true)
    (a__law_take : PySem.W.nsIn K mainGlobals "_law_take" = some (some (.ref f__law_take)))
    (l__law_take : K.lookup f__law_take = some ⟨oc__law_take, od__law_take, .func (PySem.W.fnOf "_law_take" "_law_take" (defArgs st__law_take) (defBody st__law_take) (defScope st__law_take) .none kV__law_take dc__law_take pm__law_take an__law_take cd__law_take ct__law_take), sl__law_take⟩)
    (c__law_take : PySem.W.codeIn K cd__law_take "_law_take" = true)
    (k__law_take : PySem.W.keepIn K (.ref f__law_take) = true)
    (a__law_low : PySem.W.nsIn K mainGlobals "_law_low" = some (some (.ref f__law_low)))
    (l__law_low : K.lookup f__law_low = some ⟨oc__law_low, od__law_low, .func (PySem.W.fnOf "_law_low" "_law_low" (defArgs st__law_low) (defBody st__law_low) (defScope st__law_low) .none kV__law_low dc__law_low pm__law_low an__law_low cd__law_low ct__law_low), sl__law_low⟩)
    (c__law_low : PySem.W.codeIn K cd__law_low "_law_low" = true)
    (k__law_low : PySem.W.keepIn K (.ref f__law_low) = true)
    (a__law_told : PySem.W.nsIn K mainGlobals "_law_told" = some (some (.ref f__law_told)))
    (l__law_told : K.lookup f__law_told = some ⟨oc__law_told, od__law_told, .func (PySem.W.fnOf "_law_told" "_law_told" (defArgs st__law_told) (defBody st__law_told) (defScope st__law_told) .none kV__law_told dc__law_told pm__law_told an__law_told cd__law_told ct__law_told), sl__law_told⟩)
    (c__law_told : PySem.W.codeIn K cd__law_told "_law_told" = true)
    (k__law_told : PySem.W.keepIn K (.ref f__law_told) = true)
    (a__law_number : PySem.W.nsIn K mainGlobals "_law_number" = some (some (.ref f__law_number)))
    (l__law_number : K.lookup f__law_number = some ⟨oc__law_number, od__law_number, .func (PySem.W.fnOf "_law_number" "_law_number" (defArgs st__law_number) (defBody st__law_number) (defScope st__law_number) .none kV__law_number dc__law_number pm__law_number an__law_number cd__law_number ct__law_number), sl__law_number⟩)
    (c__law_number : PySem.W.codeIn K cd__law_number "_law_number" = true)
    (k__law_number : PySem.W.keepIn K (.ref f__law_number) = true)
    (a__law_sum_by : PySem.W.nsIn K mainGlobals "_law_sum_by" = some (some (.ref f__law_sum_by)))
    (l__law_sum_by : K.lookup f__law_sum_by = some ⟨oc__law_sum_by, od__law_sum_by, .func (PySem.W.fnOf "_law_sum_by" "_law_sum_by" (defArgs st__law_sum_by) (defBody st__law_sum_by) (defScope st__law_sum_by) .none kV__law_sum_by dc__law_sum_by pm__law_sum_by an__law_sum_by cd__law_sum_by ct__law_sum_by), sl__law_sum_by⟩)
    (c__law_sum_by : PySem.W.codeIn K cd__law_sum_by "_law_sum_by" = true)
    (k__law_sum_by : PySem.W.keepIn K (.ref f__law_sum_by) = true)
    (a__law_class : PySem.W.nsIn K mainGlobals "_law_class" = some (some (.ref f__law_class)))
    (l__law_class : K.lookup f__law_class = some ⟨oc__law_class, od__law_class, .func (PySem.W.fnOf "_law_class" "_law_class" (defArgs st__law_class) (defBody st__law_class) (defScope st__law_class) .none kV__law_class dc__law_class pm__law_class an__law_class cd__law_class ct__law_class), sl__law_class⟩)
    (c__law_class : PySem.W.codeIn K cd__law_class "_law_class" = true)
    (k__law_class : PySem.W.keepIn K (.ref f__law_class) = true)
    (a__law_asked : PySem.W.nsIn K mainGlobals "_law_asked" = some (some (.ref f__law_asked)))
    (l__law_asked : K.lookup f__law_asked = some ⟨oc__law_asked, od__law_asked, .func (PySem.W.fnOf "_law_asked" "_law_asked" (defArgs st__law_asked) (defBody st__law_asked) (defScope st__law_asked) .none kV__law_asked dc__law_asked pm__law_asked an__law_asked cd__law_asked ct__law_asked), sl__law_asked⟩)
    (c__law_asked : PySem.W.codeIn K cd__law_asked "_law_asked" = true)
    (k__law_asked : PySem.W.keepIn K (.ref f__law_asked) = true)
    (a_law : PySem.W.nsIn K mainGlobals "law" = some (some (.ref f_law)))
    (l_law : K.lookup f_law = some ⟨oc_law, od_law, .func (PySem.W.fnOf "law" "law" (defArgs st_law) (defBody st_law) (defScope st_law) .none kV_law dc_law pm_law an_law cd_law ct_law), sl_law⟩)
    (c_law : PySem.W.codeIn K cd_law "law" = true)
    (k_law : PySem.W.keepIn K (.ref f_law) = true)
    : Txt K mg where
  m_ValueError := PySem.W.mg_none_of X G z_ValueError
  m_abs := PySem.W.mg_none_of X G z_abs
  m_isinstance := PySem.W.mg_none_of X G z_isinstance
  m_len := PySem.W.mg_none_of X G z_len
  m_list := PySem.W.mg_none_of X G z_list
  m_range := PySem.W.mg_none_of X G z_range
  m_sorted := PySem.W.mg_none_of X G z_sorted
  c_MeetError := cc_MeetError
  gC_MeetError := PySem.W.mg_of X G cg_MeetError
  c_NoRatio := cc_NoRatio
  gC_NoRatio := PySem.W.mg_of X G cg_NoRatio
  c_Nought := cc_Nought
  gC_Nought := PySem.W.mg_of X G cg_Nought
  c_NoTable := cc_NoTable
  gC_NoTable := PySem.W.mg_of X G cg_NoTable
  c_NoStep := cc_NoStep
  gC_NoStep := PySem.W.mg_of X G cg_NoStep
  c_NoSide := cc_NoSide
  gC_NoSide := PySem.W.mg_of X G cg_NoSide
  c_NoPart := cc_NoPart
  gC_NoPart := PySem.W.mg_of X G cg_NoPart
  c_TooMuch := cc_TooMuch
  gC_TooMuch := PySem.W.mg_of X G cg_TooMuch
  c_CommonPart := cc_CommonPart
  gC_CommonPart := PySem.W.mg_of X G cg_CommonPart
  c_NoText := cc_NoText
  gC_NoText := PySem.W.mg_of X G cg_NoText
  c_NoName := cc_NoName
  gC_NoName := PySem.W.mg_of X G cg_NoName
  c_Rests := cc_Rests
  gC_Rests := PySem.W.mg_of X G cg_Rests
  q_Nought := yq_Nought
  kC_Nought := ykC_Nought
  r1_Nought := yr1_Nought
  r2_Nought := yr2_Nought
  x1_Nought := yx1_Nought
  x2_Nought := yx2_Nought
  x3_Nought := yx3_Nought
  x4_Nought := yx4_Nought
  x5_Nought := yx5_Nought
  x6_Nought := yx6_Nought
  x7_Nought := yx7_Nought
  xm_Nought_MeetError := PySem.W.exm_ref hb_MeetError hd_MeetError ht_MeetError sb_Nought_MeetError
  kt_Nought_Nought := kit_self
  kt_Nought_TooMuch := kit_no sb_Nought_TooMuch sb_Nought_Nought hd_TooMuch ht_TooMuch
  kt_Nought_CommonPart := kit_no sb_Nought_CommonPart sb_Nought_Nought hd_CommonPart ht_CommonPart
  kt_Nought_NoPart := kit_no sb_Nought_NoPart sb_Nought_Nought hd_NoPart ht_NoPart
  kt_Nought_NoRatio := kit_no sb_Nought_NoRatio sb_Nought_Nought hd_NoRatio ht_NoRatio
  kt_Nought_NoSide := kit_no sb_Nought_NoSide sb_Nought_Nought hd_NoSide ht_NoSide
  kt_Nought_NoStep := kit_no sb_Nought_NoStep sb_Nought_Nought hd_NoStep ht_NoStep
  kt_Nought_NoTable := kit_no sb_Nought_NoTable sb_Nought_Nought hd_NoTable ht_NoTable
  kt_Nought_NoText := kit_no sb_Nought_NoText sb_Nought_Nought hd_NoText ht_NoText
  kt_Nought_NoName := kit_no sb_Nought_NoName sb_Nought_Nought hd_NoName ht_NoName
  kt_Nought_ValueError := kit_ve sv_Nought
  a_look_sums := f_look_sums
  d_look_sums := (PySem.W.fnOf "look_sums" "look_sums" (defArgs st_look_sums) (defBody st_look_sums) (defScope st_look_sums) .none kV_look_sums dc_look_sums pm_look_sums an_look_sums cd_look_sums ct_look_sums)
  F_look_sums := fun_mk (st := st_look_sums) l_look_sums c_look_sums k_look_sums
  b_look_sums := (fun_mk (st := st_look_sums) l_look_sums c_look_sums k_look_sums).binds (ps := P_look_sums) (fun _ _ _ _ _ _ us hl => match us, hl with | [_], _ => rfl)
  g_look_sums := PySem.W.mg_of X G a_look_sums
  a_eliminant := f_eliminant
  d_eliminant := (PySem.W.fnOf "eliminant" "eliminant" (defArgs st_eliminant) (defBody st_eliminant) (defScope st_eliminant) .none kV_eliminant dc_eliminant pm_eliminant an_eliminant cd_eliminant ct_eliminant)
  F_eliminant := fun_mk (st := st_eliminant) l_eliminant c_eliminant k_eliminant
  b_eliminant := (fun_mk (st := st_eliminant) l_eliminant c_eliminant k_eliminant).binds (ps := P_eliminant) (fun _ _ _ _ _ _ us hl => match us, hl with | [_, _], _ => rfl)
  g_eliminant := PySem.W.mg_of X G a_eliminant
  a_common := f_common
  d_common := (PySem.W.fnOf "common" "common" (defArgs st_common) (defBody st_common) (defScope st_common) .none kV_common dc_common pm_common an_common cd_common ct_common)
  F_common := fun_mk (st := st_common) l_common c_common k_common
  b_common := (fun_mk (st := st_common) l_common c_common k_common).binds (ps := P_common) (fun _ _ _ _ _ _ us hl => match us, hl with | [_, _], _ => rfl)
  g_common := PySem.W.mg_of X G a_common
  a_parted := f_parted
  d_parted := (PySem.W.fnOf "parted" "parted" (defArgs st_parted) (defBody st_parted) (defScope st_parted) .none kV_parted dc_parted pm_parted an_parted cd_parted ct_parted)
  F_parted := fun_mk (st := st_parted) l_parted c_parted k_parted
  b_parted := (fun_mk (st := st_parted) l_parted c_parted k_parted).binds (ps := P_parted) (fun _ _ _ _ _ _ us hl => match us, hl with | [_, _], _ => rfl)
  g_parted := PySem.W.mg_of X G a_parted
  M_Rests := ⟨m1_Rests, m2_Rests, m3_Rests, m4_Rests⟩
  a_Rests__init__ := f_Rests__init__
  d_Rests__init__ := (PySem.W.fnOf "__init__" "Rests.__init__" (defArgs st_Rests__init__) (defBody st_Rests__init__) (defScope st_Rests__init__) .none kV_Rests__init__ dc_Rests__init__ pm_Rests__init__ an_Rests__init__ cd_Rests__init__ ct_Rests__init__)
  F_Rests__init__ := fun_mk (st := st_Rests__init__) l_Rests__init__ c_Rests__init__ k_Rests__init__
  b_Rests__init__ := (fun_mk (st := st_Rests__init__) l_Rests__init__ c_Rests__init__ k_Rests__init__).binds (ps := P_Rests__init__) (fun _ _ _ _ _ _ us hl => match us, hl with | [_, _, _], _ => rfl)
  a__law_pool := f__law_pool
  d__law_pool := (PySem.W.fnOf "_law_pool" "_law_pool" (defArgs st__law_pool) (defBody st__law_pool) (defScope st__law_pool) .none kV__law_pool dc__law_pool pm__law_pool an__law_pool cd__law_pool ct__law_pool)
  F__law_pool := fun_mk (st := st__law_pool) l__law_pool c__law_pool k__law_pool
  b__law_pool := (fun_mk (st := st__law_pool) l__law_pool c__law_pool k__law_pool).binds (ps := P__law_pool) (fun _ _ _ _ _ _ us hl => match us, hl with | [_, _], _ => rfl)
  g__law_pool := PySem.W.mg_of X G a__law_pool
  a__law_take := f__law_take
  d__law_take := (PySem.W.fnOf "_law_take" "_law_take" (defArgs st__law_take) (defBody st__law_take) (defScope st__law_take) .none kV__law_take dc__law_take pm__law_take an__law_take cd__law_take ct__law_take)
  F__law_take := fun_mk (st := st__law_take) l__law_take c__law_take k__law_take
  b__law_take := (fun_mk (st := st__law_take) l__law_take c__law_take k__law_take).binds (ps := P__law_take) (fun _ _ _ _ _ _ us hl => match us, hl with | [_, _], _ => rfl)
  g__law_take := PySem.W.mg_of X G a__law_take
  a__law_low := f__law_low
  d__law_low := (PySem.W.fnOf "_law_low" "_law_low" (defArgs st__law_low) (defBody st__law_low) (defScope st__law_low) .none kV__law_low dc__law_low pm__law_low an__law_low cd__law_low ct__law_low)
  F__law_low := fun_mk (st := st__law_low) l__law_low c__law_low k__law_low
  b__law_low := (fun_mk (st := st__law_low) l__law_low c__law_low k__law_low).binds (ps := P__law_low) (fun _ _ _ _ _ _ us hl => match us, hl with | [_, _], _ => rfl)
  g__law_low := PySem.W.mg_of X G a__law_low
  a__law_told := f__law_told
  d__law_told := (PySem.W.fnOf "_law_told" "_law_told" (defArgs st__law_told) (defBody st__law_told) (defScope st__law_told) .none kV__law_told dc__law_told pm__law_told an__law_told cd__law_told ct__law_told)
  F__law_told := fun_mk (st := st__law_told) l__law_told c__law_told k__law_told
  b__law_told := (fun_mk (st := st__law_told) l__law_told c__law_told k__law_told).binds (ps := P__law_told) (fun _ _ _ _ _ _ us hl => match us, hl with | [_], _ => rfl)
  g__law_told := PySem.W.mg_of X G a__law_told
  a__law_number := f__law_number
  d__law_number := (PySem.W.fnOf "_law_number" "_law_number" (defArgs st__law_number) (defBody st__law_number) (defScope st__law_number) .none kV__law_number dc__law_number pm__law_number an__law_number cd__law_number ct__law_number)
  F__law_number := fun_mk (st := st__law_number) l__law_number c__law_number k__law_number
  b__law_number := (fun_mk (st := st__law_number) l__law_number c__law_number k__law_number).binds (ps := P__law_number) (fun _ _ _ _ _ _ us hl => match us, hl with | [_], _ => rfl)
  g__law_number := PySem.W.mg_of X G a__law_number
  a__law_sum_by := f__law_sum_by
  d__law_sum_by := (PySem.W.fnOf "_law_sum_by" "_law_sum_by" (defArgs st__law_sum_by) (defBody st__law_sum_by) (defScope st__law_sum_by) .none kV__law_sum_by dc__law_sum_by pm__law_sum_by an__law_sum_by cd__law_sum_by ct__law_sum_by)
  F__law_sum_by := fun_mk (st := st__law_sum_by) l__law_sum_by c__law_sum_by k__law_sum_by
  b__law_sum_by := (fun_mk (st := st__law_sum_by) l__law_sum_by c__law_sum_by k__law_sum_by).binds (ps := P__law_sum_by) (fun _ _ _ _ _ _ us hl => match us, hl with | [_, _, _], _ => rfl)
  g__law_sum_by := PySem.W.mg_of X G a__law_sum_by
  a__law_class := f__law_class
  d__law_class := (PySem.W.fnOf "_law_class" "_law_class" (defArgs st__law_class) (defBody st__law_class) (defScope st__law_class) .none kV__law_class dc__law_class pm__law_class an__law_class cd__law_class ct__law_class)
  F__law_class := fun_mk (st := st__law_class) l__law_class c__law_class k__law_class
  b__law_class := (fun_mk (st := st__law_class) l__law_class c__law_class k__law_class).binds (ps := P__law_class) (fun _ _ _ _ _ _ us hl => match us, hl with | [_], _ => rfl)
  g__law_class := PySem.W.mg_of X G a__law_class
  a__law_asked := f__law_asked
  d__law_asked := (PySem.W.fnOf "_law_asked" "_law_asked" (defArgs st__law_asked) (defBody st__law_asked) (defScope st__law_asked) .none kV__law_asked dc__law_asked pm__law_asked an__law_asked cd__law_asked ct__law_asked)
  F__law_asked := fun_mk (st := st__law_asked) l__law_asked c__law_asked k__law_asked
  b__law_asked := (fun_mk (st := st__law_asked) l__law_asked c__law_asked k__law_asked).binds (ps := P__law_asked) (fun _ _ _ _ _ _ us hl => match us, hl with | [_, _, _], _ => rfl)
  g__law_asked := PySem.W.mg_of X G a__law_asked
  a_law := f_law
  d_law := (PySem.W.fnOf "law" "law" (defArgs st_law) (defBody st_law) (defScope st_law) .none kV_law dc_law pm_law an_law cd_law ct_law)
  F_law := fun_mk (st := st_law) l_law c_law k_law
  b_law := (fun_mk (st := st_law) l_law c_law k_law).binds (ps := P_law) (fun _ _ _ _ _ _ us hl => match us, hl with | [_], _ => rfl)
  g_law := PySem.W.mg_of X G a_law
theorem all_mk {l : PySem.W.OpenLaw} {w : World} {K : PySem.W.Frag} {h : Heap} {mg : Str → Option Value} {fa : Addr} (X : K.In h) (G : h.Ns mainGlobals mg) (hfa : mg "law" = some (.ref fa))
    {cc_MeetError : Addr}
    {cc_NoRatio : Addr}
    {cc_Nought : Addr}
    {cc_NoTable : Addr}
    {cc_NoStep : Addr}
    {cc_NoSide : Addr}
    {cc_NoPart : Addr}
    {cc_TooMuch : Addr}
    {cc_CommonPart : Addr}
    {cc_NoText : Addr}
    {cc_NoName : Addr}
    {cc_Rests : Addr}
    {f_look_sums : Addr} {od_look_sums an_look_sums : Option Addr} {sl_look_sums : Array (Option Value)} {oc_look_sums kV_look_sums dc_look_sums pm_look_sums cd_look_sums ct_look_sums : Value}
    {f_eliminant : Addr} {od_eliminant an_eliminant : Option Addr} {sl_eliminant : Array (Option Value)} {oc_eliminant kV_eliminant dc_eliminant pm_eliminant cd_eliminant ct_eliminant : Value}
    {f_common : Addr} {od_common an_common : Option Addr} {sl_common : Array (Option Value)} {oc_common kV_common dc_common pm_common cd_common ct_common : Value}
    {f_parted : Addr} {od_parted an_parted : Option Addr} {sl_parted : Array (Option Value)} {oc_parted kV_parted dc_parted pm_parted cd_parted ct_parted : Value}
    {f_Rests__init__ : Addr} {od_Rests__init__ an_Rests__init__ : Option Addr} {sl_Rests__init__ : Array (Option Value)} {oc_Rests__init__ kV_Rests__init__ dc_Rests__init__ pm_Rests__init__ cd_Rests__init__ ct_Rests__init__ : Value}
    {f__law_pool : Addr} {od__law_pool an__law_pool : Option Addr} {sl__law_pool : Array (Option Value)} {oc__law_pool kV__law_pool dc__law_pool pm__law_pool cd__law_pool ct__law_pool : Value}
    {f__law_take : Addr} {od__law_take an__law_take : Option Addr} {sl__law_take : Array (Option Value)} {oc__law_take kV__law_take dc__law_take pm__law_take cd__law_take ct__law_take : Value}
    {f__law_low : Addr} {od__law_low an__law_low : Option Addr} {sl__law_low : Array (Option Value)} {oc__law_low kV__law_low dc__law_low pm__law_low cd__law_low ct__law_low : Value}
    {f__law_told : Addr} {od__law_told an__law_told : Option Addr} {sl__law_told : Array (Option Value)} {oc__law_told kV__law_told dc__law_told pm__law_told cd__law_told ct__law_told : Value}
    {f__law_number : Addr} {od__law_number an__law_number : Option Addr} {sl__law_number : Array (Option Value)} {oc__law_number kV__law_number dc__law_number pm__law_number cd__law_number ct__law_number : Value}
    {f__law_sum_by : Addr} {od__law_sum_by an__law_sum_by : Option Addr} {sl__law_sum_by : Array (Option Value)} {oc__law_sum_by kV__law_sum_by dc__law_sum_by pm__law_sum_by cd__law_sum_by ct__law_sum_by : Value}
    {f__law_class : Addr} {od__law_class an__law_class : Option Addr} {sl__law_class : Array (Option Value)} {oc__law_class kV__law_class dc__law_class pm__law_class cd__law_class ct__law_class : Value}
    {f__law_asked : Addr} {od__law_asked an__law_asked : Option Addr} {sl__law_asked : Array (Option Value)} {oc__law_asked kV__law_asked dc__law_asked pm__law_asked cd__law_asked ct__law_asked : Value}
    {f_law : Addr} {od_law an_law : Option Addr} {sl_law : Array (Option Value)} {oc_law kV_law dc_law pm_law cd_law ct_law : Value}
    (z_ValueError : PySem.W.nsIn K mainGlobals "ValueError" = some none)
    (z_abs : PySem.W.nsIn K mainGlobals "abs" = some none)
    (z_isinstance : PySem.W.nsIn K mainGlobals "isinstance" = some none)
    (z_len : PySem.W.nsIn K mainGlobals "len" = some none)
    (z_list : PySem.W.nsIn K mainGlobals "list" = some none)
    (z_range : PySem.W.nsIn K mainGlobals "range" = some none)
    (z_sorted : PySem.W.nsIn K mainGlobals "sorted" = some none)
    (cg_MeetError : PySem.W.nsIn K mainGlobals "MeetError" = some (some (.ref cc_MeetError)))
    (cg_NoRatio : PySem.W.nsIn K mainGlobals "NoRatio" = some (some (.ref cc_NoRatio)))
    (cg_Nought : PySem.W.nsIn K mainGlobals "Nought" = some (some (.ref cc_Nought)))
    (cg_NoTable : PySem.W.nsIn K mainGlobals "NoTable" = some (some (.ref cc_NoTable)))
    (cg_NoStep : PySem.W.nsIn K mainGlobals "NoStep" = some (some (.ref cc_NoStep)))
    (cg_NoSide : PySem.W.nsIn K mainGlobals "NoSide" = some (some (.ref cc_NoSide)))
    (cg_NoPart : PySem.W.nsIn K mainGlobals "NoPart" = some (some (.ref cc_NoPart)))
    (cg_TooMuch : PySem.W.nsIn K mainGlobals "TooMuch" = some (some (.ref cc_TooMuch)))
    (cg_CommonPart : PySem.W.nsIn K mainGlobals "CommonPart" = some (some (.ref cc_CommonPart)))
    (cg_NoText : PySem.W.nsIn K mainGlobals "NoText" = some (some (.ref cc_NoText)))
    (cg_NoName : PySem.W.nsIn K mainGlobals "NoName" = some (some (.ref cc_NoName)))
    (cg_Rests : PySem.W.nsIn K mainGlobals "Rests" = some (some (.ref cc_Rests)))
    (hd_Nought : PySem.W.hasDictIn K cc_Nought = true)
    (ht_Nought : PySem.W.typeIn K (.ref cc_Nought) = some (.type "type"))
    (hd_TooMuch : PySem.W.hasDictIn K cc_TooMuch = true)
    (ht_TooMuch : PySem.W.typeIn K (.ref cc_TooMuch) = some (.type "type"))
    (hd_CommonPart : PySem.W.hasDictIn K cc_CommonPart = true)
    (ht_CommonPart : PySem.W.typeIn K (.ref cc_CommonPart) = some (.type "type"))
    (hd_NoPart : PySem.W.hasDictIn K cc_NoPart = true)
    (ht_NoPart : PySem.W.typeIn K (.ref cc_NoPart) = some (.type "type"))
    (hd_NoRatio : PySem.W.hasDictIn K cc_NoRatio = true)
    (ht_NoRatio : PySem.W.typeIn K (.ref cc_NoRatio) = some (.type "type"))
    (hd_NoSide : PySem.W.hasDictIn K cc_NoSide = true)
    (ht_NoSide : PySem.W.typeIn K (.ref cc_NoSide) = some (.type "type"))
    (hd_NoStep : PySem.W.hasDictIn K cc_NoStep = true)
    (ht_NoStep : PySem.W.typeIn K (.ref cc_NoStep) = some (.type "type"))
    (hd_NoTable : PySem.W.hasDictIn K cc_NoTable = true)
    (ht_NoTable : PySem.W.typeIn K (.ref cc_NoTable) = some (.type "type"))
    (hd_NoText : PySem.W.hasDictIn K cc_NoText = true)
    (ht_NoText : PySem.W.typeIn K (.ref cc_NoText) = some (.type "type"))
    (hd_NoName : PySem.W.hasDictIn K cc_NoName = true)
    (ht_NoName : PySem.W.typeIn K (.ref cc_NoName) = some (.type "type"))
    (hd_MeetError : PySem.W.hasDictIn K cc_MeetError = true)
    (ht_MeetError : PySem.W.typeIn K (.ref cc_MeetError) = some (.type "type"))
    (hb_MeetError : PySem.W.subIn K (.ref cc_MeetError) (.type "BaseException") = some true)
    (sb_Nought_Nought : PySem.W.subIn K (.ref cc_Nought) (.ref cc_Nought) = some true)
    (sb_Nought_TooMuch : PySem.W.subIn K (.ref cc_Nought) (.ref cc_TooMuch) = some false)
    (sb_Nought_CommonPart : PySem.W.subIn K (.ref cc_Nought) (.ref cc_CommonPart) = some false)
    (sb_Nought_NoPart : PySem.W.subIn K (.ref cc_Nought) (.ref cc_NoPart) = some false)
    (sb_Nought_NoRatio : PySem.W.subIn K (.ref cc_Nought) (.ref cc_NoRatio) = some false)
    (sb_Nought_NoSide : PySem.W.subIn K (.ref cc_Nought) (.ref cc_NoSide) = some false)
    (sb_Nought_NoStep : PySem.W.subIn K (.ref cc_Nought) (.ref cc_NoStep) = some false)
    (sb_Nought_NoTable : PySem.W.subIn K (.ref cc_Nought) (.ref cc_NoTable) = some false)
    (sb_Nought_NoText : PySem.W.subIn K (.ref cc_Nought) (.ref cc_NoText) = some false)
    (sb_Nought_NoName : PySem.W.subIn K (.ref cc_Nought) (.ref cc_NoName) = some false)
    (sb_Nought_MeetError : PySem.W.subIn K (.ref cc_Nought) (.ref cc_MeetError) = some true)
    (sv_Nought : PySem.W.subIn K (.ref cc_Nought) (.type "ValueError") = some true)
    (yq_Nought : PySem.W.excIn K cc_Nought [.type "ValueError", .type "Exception", .type "BaseException", .type "object"] "ValueError.__new__" = true)
    (ykC_Nought : PySem.W.keepIn K (.ref cc_Nought) = true)
    (yr1_Nought : PySem.W.subIn K (.ref cc_Nought) (.type "BaseException") = some true)
    (yr2_Nought : PySem.W.typeIn K (.ref cc_Nought) = some (.type "type"))
    (yx1_Nought : PySem.W.findIn K (.ref cc_Nought) "__getattribute__" = some (some (.builtin "BaseException.__getattribute__")))
    (yx2_Nought : PySem.W.findIn K (.ref cc_Nought) "__getattr__" = some none)
    (yx3_Nought : PySem.W.hasDictIn K cc_Nought = true)
    (yx4_Nought : PySem.W.findIn K (.ref cc_Nought) "__class__" = some (some (.builtin "object.__class__")))
    (yx5_Nought : PySem.W.specialIn K (.builtin "object.__class__") "__get__" = some (some (.builtin "getset_descriptor.__get__")))
    (yx6_Nought : PySem.W.takesIn K (.builtin "object.__class__") = some true)
    (yx7_Nought : PySem.W.mroIn K cc_Nought (.type "object") = some true)
    (a_look_sums : PySem.W.nsIn K mainGlobals "look_sums" = some (some (.ref f_look_sums)))
    (l_look_sums : K.lookup f_look_sums = some ⟨oc_look_sums, od_look_sums, .func (PySem.W.fnOf "look_sums" "look_sums" (defArgs st_look_sums) (defBody st_look_sums) (defScope st_look_sums) .none kV_look_sums dc_look_sums pm_look_sums an_look_sums cd_look_sums ct_look_sums), sl_look_sums⟩)
    (c_look_sums : PySem.W.codeIn K cd_look_sums "look_sums" = true)
    (k_look_sums : PySem.W.keepIn K (.ref f_look_sums) = true)
    (a_eliminant : PySem.W.nsIn K mainGlobals "eliminant" = some (some (.ref f_eliminant)))
    (l_eliminant : K.lookup f_eliminant = some ⟨oc_eliminant, od_eliminant, .func (PySem.W.fnOf "eliminant" "eliminant" (defArgs st_eliminant) (defBody st_eliminant) (defScope st_eliminant) .none kV_eliminant dc_eliminant pm_eliminant an_eliminant cd_eliminant ct_eliminant), sl_eliminant⟩)
    (c_eliminant : PySem.W.codeIn K cd_eliminant "eliminant" = true)
    (k_eliminant : PySem.W.keepIn K (.ref f_eliminant) = true)
    (a_common : PySem.W.nsIn K mainGlobals "common" = some (some (.ref f_common)))
    (l_common : K.lookup f_common = some ⟨oc_common, od_common, .func (PySem.W.fnOf "common" "common" (defArgs st_common) (defBody st_common) (defScope st_common) .none kV_common dc_common pm_common an_common cd_common ct_common), sl_common⟩)
    (c_common : PySem.W.codeIn K cd_common "common" = true)
    (k_common : PySem.W.keepIn K (.ref f_common) = true)
    (a_parted : PySem.W.nsIn K mainGlobals "parted" = some (some (.ref f_parted)))
    (l_parted : K.lookup f_parted = some ⟨oc_parted, od_parted, .func (PySem.W.fnOf "parted" "parted" (defArgs st_parted) (defBody st_parted) (defScope st_parted) .none kV_parted dc_parted pm_parted an_parted cd_parted ct_parted), sl_parted⟩)
    (c_parted : PySem.W.codeIn K cd_parted "parted" = true)
    (k_parted : PySem.W.keepIn K (.ref f_parted) = true)
    (m1_Rests : PySem.W.makesIn K cc_Rests = true)
    (m2_Rests : PySem.W.findIn K (.ref cc_Rests) "__init__" = some (some (.ref f_Rests__init__)))
    (m3_Rests : PySem.W.isFn K (.ref f_Rests__init__) = true)
    (m4_Rests : PySem.W.keepIn K (.ref cc_Rests) = true)
    (l_Rests__init__ : K.lookup f_Rests__init__ = some ⟨oc_Rests__init__, od_Rests__init__, .func (PySem.W.fnOf "__init__" "Rests.__init__" (defArgs st_Rests__init__) (defBody st_Rests__init__) (defScope st_Rests__init__) .none kV_Rests__init__ dc_Rests__init__ pm_Rests__init__ an_Rests__init__ cd_Rests__init__ ct_Rests__init__), sl_Rests__init__⟩)
    (c_Rests__init__ : PySem.W.codeIn K cd_Rests__init__ "Rests.__init__" = true)
    (k_Rests__init__ : PySem.W.keepIn K (.ref f_Rests__init__) = true)
    (a__law_pool : PySem.W.nsIn K mainGlobals "_law_pool" = some (some (.ref f__law_pool)))
    (l__law_pool : K.lookup f__law_pool = some ⟨oc__law_pool, od__law_pool, .func (PySem.W.fnOf "_law_pool" "_law_pool" (defArgs st__law_pool) (defBody st__law_pool) (defScope st__law_pool) .none kV__law_pool dc__law_pool pm__law_pool an__law_pool cd__law_pool ct__law_pool), sl__law_pool⟩)
    (c__law_pool : PySem.W.codeIn K cd__law_pool "_law_pool" = true)
    (k__law_pool : PySem.W.keepIn K (.ref f__law_pool) = true)
    (a__law_take : PySem.W.nsIn K mainGlobals "_law_take" = some (some (.ref f__law_take)))
    (l__law_take : K.lookup f__law_take = some ⟨oc__law_take, od__law_take, .func (PySem.W.fnOf "_law_take" "_law_take" (defArgs st__law_take) (defBody st__law_take) (defScope st__law_take) .none kV__law_take dc__law_take pm__law_take an__law_take cd__law_take ct__law_take), sl__law_take⟩)
    (c__law_take : PySem.W.codeIn K cd__law_take "_law_take" = true)
    (k__law_take : PySem.W.keepIn K (.ref f__law_take) = true)
    (a__law_low : PySem.W.nsIn K mainGlobals "_law_low" = some (some (.ref f__law_low)))
    (l__law_low : K.lookup f__law_low = some ⟨oc__law_low, od__law_low, .func (PySem.W.fnOf "_law_low" "_law_low" (defArgs st__law_low) (defBody st__law_low) (defScope st__law_low) .none kV__law_low dc__law_low pm__law_low an__law_low cd__law_low ct__law_low), sl__law_low⟩)
    (c__law_low : PySem.W.codeIn K cd__law_low "_law_low" = true)
    (k__law_low : PySem.W.keepIn K (.ref f__law_low) = true)
    (a__law_told : PySem.W.nsIn K mainGlobals "_law_told" = some (some (.ref f__law_told)))
    (l__law_told : K.lookup f__law_told = some ⟨oc__law_told, od__law_told, .func (PySem.W.fnOf "_law_told" "_law_told" (defArgs st__law_told) (defBody st__law_told) (defScope st__law_told) .none kV__law_told dc__law_told pm__law_told an__law_told cd__law_told ct__law_told), sl__law_told⟩)
    (c__law_told : PySem.W.codeIn K cd__law_told "_law_told" = true)
    (k__law_told : PySem.W.keepIn K (.ref f__law_told) = true)
    (a__law_number : PySem.W.nsIn K mainGlobals "_law_number" = some (some (.ref f__law_number)))
    (l__law_number : K.lookup f__law_number = some ⟨oc__law_number, od__law_number, .func (PySem.W.fnOf "_law_number" "_law_number" (defArgs st__law_number) (defBody st__law_number) (defScope st__law_number) .none kV__law_number dc__law_number pm__law_number an__law_number cd__law_number ct__law_number), sl__law_number⟩)
    (c__law_number : PySem.W.codeIn K cd__law_number "_law_number" = true)
    (k__law_number : PySem.W.keepIn K (.ref f__law_number) = true)
    (a__law_sum_by : PySem.W.nsIn K mainGlobals "_law_sum_by" = some (some (.ref f__law_sum_by)))
    (l__law_sum_by : K.lookup f__law_sum_by = some ⟨oc__law_sum_by, od__law_sum_by, .func (PySem.W.fnOf "_law_sum_by" "_law_sum_by" (defArgs st__law_sum_by) (defBody st__law_sum_by) (defScope st__law_sum_by) .none kV__law_sum_by dc__law_sum_by pm__law_sum_by an__law_sum_by cd__law_sum_by ct__law_sum_by), sl__law_sum_by⟩)
    (c__law_sum_by : PySem.W.codeIn K cd__law_sum_by "_law_sum_by" = true)
    (k__law_sum_by : PySem.W.keepIn K (.ref f__law_sum_by) = true)
    (a__law_class : PySem.W.nsIn K mainGlobals "_law_class" = some (some (.ref f__law_class)))
    (l__law_class : K.lookup f__law_class = some ⟨oc__law_class, od__law_class, .func (PySem.W.fnOf "_law_class" "_law_class" (defArgs st__law_class) (defBody st__law_class) (defScope st__law_class) .none kV__law_class dc__law_class pm__law_class an__law_class cd__law_class ct__law_class), sl__law_class⟩)
    (c__law_class : PySem.W.codeIn K cd__law_class "_law_class" = true)
    (k__law_class : PySem.W.keepIn K (.ref f__law_class) = true)
    (a__law_asked : PySem.W.nsIn K mainGlobals "_law_asked" = some (some (.ref f__law_asked)))
    (l__law_asked : K.lookup f__law_asked = some ⟨oc__law_asked, od__law_asked, .func (PySem.W.fnOf "_law_asked" "_law_asked" (defArgs st__law_asked) (defBody st__law_asked) (defScope st__law_asked) .none kV__law_asked dc__law_asked pm__law_asked an__law_asked cd__law_asked ct__law_asked), sl__law_asked⟩)
    (c__law_asked : PySem.W.codeIn K cd__law_asked "_law_asked" = true)
    (k__law_asked : PySem.W.keepIn K (.ref f__law_asked) = true)
    (a_law : PySem.W.nsIn K mainGlobals "law" = some (some (.ref f_law)))
    (l_law : K.lookup f_law = some ⟨oc_law, od_law, .func (PySem.W.fnOf "law" "law" (defArgs st_law) (defBody st_law) (defScope st_law) .none kV_law dc_law pm_law an_law cd_law ct_law), sl_law⟩)
    (c_law : PySem.W.codeIn K cd_law "law" = true)
    (k_law : PySem.W.keepIn K (.ref f_law) = true)
    : ∃ fd : FuncData, (∀ (s : Shared) (v : Value), BindsTo s fd ⟨[v], []⟩ [("_law_script", v)]) ∧ ∀ base : Heap, K.In base → base.Ns mainGlobals mg → FnOk l.prog w K mg base CX0 5 fa fd P_law (spD K [false] ev_law) := by
  have e := hfa.symm.trans (PySem.W.mg_of X G a_law)
  cases e
  exact ⟨_, fun s v => .of_eq rfl, fun base _ _ => ok_law (mk X G z_ValueError z_abs z_isinstance z_len z_list z_range z_sorted cg_MeetError cg_NoRatio cg_Nought cg_NoTable cg_NoStep cg_NoSide cg_NoPart cg_TooMuch cg_CommonPart cg_NoText cg_NoName cg_Rests hd_Nought ht_Nought hd_TooMuch ht_TooMuch hd_CommonPart ht_CommonPart hd_NoPart ht_NoPart hd_NoRatio ht_NoRatio hd_NoSide ht_NoSide hd_NoStep ht_NoStep hd_NoTable ht_NoTable hd_NoText ht_NoText hd_NoName ht_NoName hd_MeetError ht_MeetError hb_MeetError sb_Nought_Nought sb_Nought_TooMuch sb_Nought_CommonPart sb_Nought_NoPart sb_Nought_NoRatio sb_Nought_NoSide sb_Nought_NoStep sb_Nought_NoTable sb_Nought_NoText sb_Nought_NoName sb_Nought_MeetError sv_Nought yq_Nought ykC_Nought yr1_Nought yr2_Nought yx1_Nought yx2_Nought yx3_Nought yx4_Nought yx5_Nought yx6_Nought yx7_Nought a_look_sums l_look_sums c_look_sums k_look_sums a_eliminant l_eliminant c_eliminant k_eliminant a_common l_common c_common k_common a_parted l_parted c_parted k_parted m1_Rests m2_Rests m3_Rests m4_Rests l_Rests__init__ c_Rests__init__ k_Rests__init__ a__law_pool l__law_pool c__law_pool k__law_pool a__law_take l__law_take c__law_take k__law_take a__law_low l__law_low c__law_low k__law_low a__law_told l__law_told c__law_told k__law_told a__law_number l__law_number c__law_number k__law_number a__law_sum_by l__law_sum_by c__law_sum_by k__law_sum_by a__law_class l__law_class c__law_class k__law_class a__law_asked l__law_asked c__law_asked k__law_asked a_law l_law c_law k_law)⟩
end Lw

namespace Hx
open PySem PySem.Spec PyProof.Rows L2 He Lw
abbrev R : PySem.W.OpenRow := PySem.W.OpenLaw.row PySem.Challenge.rw_mixedmeets_k44_nought_refused
abbrev qv : Program := PySem.W.view R.prog [131]
def names0 : List PySem.Str := ["_wall", "MeetError", "NoRatio", "Nought", "NoTable", "NoStep", "NoSide", "NoPart", "TooMuch", "CommonPart", "NoText", "NoName", "NOUGHT", "ONE_ratios", "divisor", "ratio", "added", "taken", "multiplied", "divided"]
def names1 : List PySem.Str := ["raised", "line", "figure_at", "figure_at_lines", "line_sum", "line_times", "line_product", "line_parted", "with_one", "worth_at", "ZERO", "ONE_strips", "strip", "is_nought", "is_single", "high", "figure_at_strips", "strip_with", "strip_sum", "strip_less"]
def names2 : List PySem.Str := ["strip_product", "strip_by_single", "strip_parted", "MOST_SHEAR", "power_turned", "back_table", "all_tables", "layers_of", "sum_of", "layer_put", "layers_less", "layers_product", "is_upright", "height", "best_table", "brought_within", "layers_parted", "as_first", "PRIME", "worth_of_strip"]
def names3 : List PySem.Str := ["line_at", "contrary_by", "lefts", "without_noughts", "left_by", "are_apart", "common_of", "line_through", "layers_through", "divides", "reach_of", "common_layers", "common_multiple", "whole_row", "worth_of", "row_with", "lower_rows", "determinant", "most_power", "firsts_of_differences"]
def names4 : List PySem.Str := ["figures_by", "determinant_line", "PLAIN", "look_sums", "row_less", "row_ended", "least_place", "step_at", "are_stepped", "pushed_rows", "eliminant", "common", "parted", "cross", "half_round", "hull", "shape", "doubled", "put_together", "mixed_area"]
def names5 : List PySem.Str := ["MOST_AREA", "row_as_first", "into_window", "Rests", "_law_pool", "_law_take", "_law_low", "_law_add", "_law_mul", "_law_dict", "_law_both", "_law_told", "_law_product", "_law_plus", "_law_number", "_law_sum_by", "_law_class", "_law_asked"]
def names : List PySem.Str := names0 ++ (names1 ++ (names2 ++ (names3 ++ (names4 ++ (names5)))))
def ask0 : List PySem.Str := ["MeetError", "NoRatio", "Nought", "NoTable", "NoStep", "NoSide", "NoPart", "TooMuch", "CommonPart", "NoText", "NoName", "Rests", "look_sums", "eliminant", "common", "parted", "_law_pool", "_law_take", "_law_low", "_law_told"]
def ask1 : List PySem.Str := ["_law_number", "_law_sum_by", "_law_class", "_law_asked", "law"]
def ask : List PySem.Str := ask0 ++ (ask1)
def dn0 : He.FnD := ⟨("look_sums", none), "look_sums", "look_sums", defArgs st_look_sums, defBody st_look_sums, defScope st_look_sums⟩
def dn1 : He.FnD := ⟨("eliminant", none), "eliminant", "eliminant", defArgs st_eliminant, defBody st_eliminant, defScope st_eliminant⟩
def dn2 : He.FnD := ⟨("common", none), "common", "common", defArgs st_common, defBody st_common, defScope st_common⟩
def dn3 : He.FnD := ⟨("parted", none), "parted", "parted", defArgs st_parted, defBody st_parted, defScope st_parted⟩
def dn4 : He.FnD := ⟨("Rests", some "__init__"), "__init__", "Rests.__init__", defArgs st_Rests__init__, defBody st_Rests__init__, defScope st_Rests__init__⟩
def dn5 : He.FnD := ⟨("_law_pool", none), "_law_pool", "_law_pool", defArgs st__law_pool, defBody st__law_pool, defScope st__law_pool⟩
def dn6 : He.FnD := ⟨("_law_take", none), "_law_take", "_law_take", defArgs st__law_take, defBody st__law_take, defScope st__law_take⟩
def dn7 : He.FnD := ⟨("_law_low", none), "_law_low", "_law_low", defArgs st__law_low, defBody st__law_low, defScope st__law_low⟩
def dn8 : He.FnD := ⟨("_law_told", none), "_law_told", "_law_told", defArgs st__law_told, defBody st__law_told, defScope st__law_told⟩
def dn9 : He.FnD := ⟨("_law_number", none), "_law_number", "_law_number", defArgs st__law_number, defBody st__law_number, defScope st__law_number⟩
def dn10 : He.FnD := ⟨("_law_sum_by", none), "_law_sum_by", "_law_sum_by", defArgs st__law_sum_by, defBody st__law_sum_by, defScope st__law_sum_by⟩
def dn11 : He.FnD := ⟨("_law_class", none), "_law_class", "_law_class", defArgs st__law_class, defBody st__law_class, defScope st__law_class⟩
def dn12 : He.FnD := ⟨("_law_asked", none), "_law_asked", "_law_asked", defArgs st__law_asked, defBody st__law_asked, defScope st__law_asked⟩
def dn13 : He.FnD := ⟨("law", none), "law", "law", defArgs st_law, defBody st_law, defScope st_law⟩
def fn0 : List He.FnD := [dn0, dn1, dn2, dn3, dn4, dn5, dn6, dn7, dn8, dn9, dn10, dn11, dn12, dn13]
def fn : List He.FnD := fn0
def ex0 : List (PySem.W.Frag → Bool) := [fun K => He.eqO (PySem.W.nsIn K mainGlobals "ValueError") (some none), fun K => He.eqO (PySem.W.nsIn K mainGlobals "abs") (some none), fun K => He.eqO (PySem.W.nsIn K mainGlobals "isinstance") (some none), fun K => He.eqO (PySem.W.nsIn K mainGlobals "len") (some none), fun K => He.eqO (PySem.W.nsIn K mainGlobals "list") (some none), fun K => He.eqO (PySem.W.nsIn K mainGlobals "range") (some none), fun K => He.eqO (PySem.W.nsIn K mainGlobals "sorted") (some none), fun K => He.eqO (PySem.W.nsIn K mainGlobals "MeetError") (some (some (.ref (He.ga K "MeetError")))), fun K => He.eqO (PySem.W.nsIn K mainGlobals "NoRatio") (some (some (.ref (He.ga K "NoRatio")))), fun K => He.eqO (PySem.W.nsIn K mainGlobals "Nought") (some (some (.ref (He.ga K "Nought")))), fun K => He.eqO (PySem.W.nsIn K mainGlobals "NoTable") (some (some (.ref (He.ga K "NoTable")))), fun K => He.eqO (PySem.W.nsIn K mainGlobals "NoStep") (some (some (.ref (He.ga K "NoStep"))))]
def ex1 : List (PySem.W.Frag → Bool) := [fun K => He.eqO (PySem.W.nsIn K mainGlobals "NoSide") (some (some (.ref (He.ga K "NoSide")))), fun K => He.eqO (PySem.W.nsIn K mainGlobals "NoPart") (some (some (.ref (He.ga K "NoPart")))), fun K => He.eqO (PySem.W.nsIn K mainGlobals "TooMuch") (some (some (.ref (He.ga K "TooMuch")))), fun K => He.eqO (PySem.W.nsIn K mainGlobals "CommonPart") (some (some (.ref (He.ga K "CommonPart")))), fun K => He.eqO (PySem.W.nsIn K mainGlobals "NoText") (some (some (.ref (He.ga K "NoText")))), fun K => He.eqO (PySem.W.nsIn K mainGlobals "NoName") (some (some (.ref (He.ga K "NoName")))), fun K => He.eqO (PySem.W.nsIn K mainGlobals "Rests") (some (some (.ref (He.ga K "Rests")))), fun K => PySem.W.hasDictIn K (He.ga K "Nought"), fun K => decide (PySem.W.typeIn K (.ref (He.ga K "Nought")) = some (.type "type")), fun K => PySem.W.hasDictIn K (He.ga K "TooMuch"), fun K => decide (PySem.W.typeIn K (.ref (He.ga K "TooMuch")) = some (.type "type")), fun K => PySem.W.hasDictIn K (He.ga K "CommonPart")]
def ex2 : List (PySem.W.Frag → Bool) := [fun K => decide (PySem.W.typeIn K (.ref (He.ga K "CommonPart")) = some (.type "type")), fun K => PySem.W.hasDictIn K (He.ga K "NoPart"), fun K => decide (PySem.W.typeIn K (.ref (He.ga K "NoPart")) = some (.type "type")), fun K => PySem.W.hasDictIn K (He.ga K "NoRatio"), fun K => decide (PySem.W.typeIn K (.ref (He.ga K "NoRatio")) = some (.type "type")), fun K => PySem.W.hasDictIn K (He.ga K "NoSide"), fun K => decide (PySem.W.typeIn K (.ref (He.ga K "NoSide")) = some (.type "type")), fun K => PySem.W.hasDictIn K (He.ga K "NoStep"), fun K => decide (PySem.W.typeIn K (.ref (He.ga K "NoStep")) = some (.type "type")), fun K => PySem.W.hasDictIn K (He.ga K "NoTable"), fun K => decide (PySem.W.typeIn K (.ref (He.ga K "NoTable")) = some (.type "type")), fun K => PySem.W.hasDictIn K (He.ga K "NoText")]
def ex3 : List (PySem.W.Frag → Bool) := [fun K => decide (PySem.W.typeIn K (.ref (He.ga K "NoText")) = some (.type "type")), fun K => PySem.W.hasDictIn K (He.ga K "NoName"), fun K => decide (PySem.W.typeIn K (.ref (He.ga K "NoName")) = some (.type "type")), fun K => PySem.W.hasDictIn K (He.ga K "MeetError"), fun K => decide (PySem.W.typeIn K (.ref (He.ga K "MeetError")) = some (.type "type")), fun K => decide (PySem.W.subIn K (.ref (He.ga K "MeetError")) (.type "BaseException") = some true), fun K => decide (PySem.W.subIn K (.ref (He.ga K "Nought")) (.ref (He.ga K "Nought")) = some true), fun K => decide (PySem.W.subIn K (.ref (He.ga K "Nought")) (.ref (He.ga K "TooMuch")) = some false), fun K => decide (PySem.W.subIn K (.ref (He.ga K "Nought")) (.ref (He.ga K "CommonPart")) = some false), fun K => decide (PySem.W.subIn K (.ref (He.ga K "Nought")) (.ref (He.ga K "NoPart")) = some false), fun K => decide (PySem.W.subIn K (.ref (He.ga K "Nought")) (.ref (He.ga K "NoRatio")) = some false), fun K => decide (PySem.W.subIn K (.ref (He.ga K "Nought")) (.ref (He.ga K "NoSide")) = some false)]
def ex4 : List (PySem.W.Frag → Bool) := [fun K => decide (PySem.W.subIn K (.ref (He.ga K "Nought")) (.ref (He.ga K "NoStep")) = some false), fun K => decide (PySem.W.subIn K (.ref (He.ga K "Nought")) (.ref (He.ga K "NoTable")) = some false), fun K => decide (PySem.W.subIn K (.ref (He.ga K "Nought")) (.ref (He.ga K "NoText")) = some false), fun K => decide (PySem.W.subIn K (.ref (He.ga K "Nought")) (.ref (He.ga K "NoName")) = some false), fun K => decide (PySem.W.subIn K (.ref (He.ga K "Nought")) (.ref (He.ga K "MeetError")) = some true), fun K => decide (PySem.W.subIn K (.ref (He.ga K "Nought")) (.type "ValueError") = some true), fun K => PySem.W.excIn K (He.ga K "Nought") [.type "ValueError", .type "Exception", .type "BaseException", .type "object"] "ValueError.__new__", fun K => PySem.W.keepIn K (.ref (He.ga K "Nought")), fun K => decide (PySem.W.subIn K (.ref (He.ga K "Nought")) (.type "BaseException") = some true), fun K => He.eqO (PySem.W.findIn K (.ref (He.ga K "Nought")) "__getattribute__") (some (some (.builtin "BaseException.__getattribute__"))), fun K => He.eqO (PySem.W.findIn K (.ref (He.ga K "Nought")) "__getattr__") (some none), fun K => He.eqO (PySem.W.findIn K (.ref (He.ga K "Nought")) "__class__") (some (some (.builtin "object.__class__")))]
def ex5 : List (PySem.W.Frag → Bool) := [fun K => decide (PySem.W.specialIn K (.builtin "object.__class__") "__get__" = some (some (.builtin "getset_descriptor.__get__"))), fun K => decide (PySem.W.takesIn K (.builtin "object.__class__") = some true), fun K => decide (PySem.W.mroIn K (He.ga K "Nought") (.type "object") = some true), fun K => He.eqO (PySem.W.nsIn K mainGlobals "look_sums") (some (some (.ref (He.ga K "look_sums")))), fun K => PySem.W.keepIn K (.ref (He.ga K "look_sums")), fun K => He.eqO (PySem.W.nsIn K mainGlobals "eliminant") (some (some (.ref (He.ga K "eliminant")))), fun K => PySem.W.keepIn K (.ref (He.ga K "eliminant")), fun K => He.eqO (PySem.W.nsIn K mainGlobals "common") (some (some (.ref (He.ga K "common")))), fun K => PySem.W.keepIn K (.ref (He.ga K "common")), fun K => He.eqO (PySem.W.nsIn K mainGlobals "parted") (some (some (.ref (He.ga K "parted")))), fun K => PySem.W.keepIn K (.ref (He.ga K "parted")), fun K => PySem.W.makesIn K (He.ga K "Rests")]
def ex6 : List (PySem.W.Frag → Bool) := [fun K => He.eqO (PySem.W.findIn K (.ref (He.ga K "Rests")) "__init__") (some (some (.ref (He.ma K (He.ga K "Rests") "__init__")))), fun K => PySem.W.isFn K (.ref (He.ma K (He.ga K "Rests") "__init__")), fun K => PySem.W.keepIn K (.ref (He.ga K "Rests")), fun K => PySem.W.keepIn K (.ref (He.ma K (He.ga K "Rests") "__init__")), fun K => He.eqO (PySem.W.nsIn K mainGlobals "_law_pool") (some (some (.ref (He.ga K "_law_pool")))), fun K => PySem.W.keepIn K (.ref (He.ga K "_law_pool")), fun K => He.eqO (PySem.W.nsIn K mainGlobals "_law_take") (some (some (.ref (He.ga K "_law_take")))), fun K => PySem.W.keepIn K (.ref (He.ga K "_law_take")), fun K => He.eqO (PySem.W.nsIn K mainGlobals "_law_low") (some (some (.ref (He.ga K "_law_low")))), fun K => PySem.W.keepIn K (.ref (He.ga K "_law_low")), fun K => He.eqO (PySem.W.nsIn K mainGlobals "_law_told") (some (some (.ref (He.ga K "_law_told")))), fun K => PySem.W.keepIn K (.ref (He.ga K "_law_told"))]
def ex7 : List (PySem.W.Frag → Bool) := [fun K => He.eqO (PySem.W.nsIn K mainGlobals "_law_number") (some (some (.ref (He.ga K "_law_number")))), fun K => PySem.W.keepIn K (.ref (He.ga K "_law_number")), fun K => He.eqO (PySem.W.nsIn K mainGlobals "_law_sum_by") (some (some (.ref (He.ga K "_law_sum_by")))), fun K => PySem.W.keepIn K (.ref (He.ga K "_law_sum_by")), fun K => He.eqO (PySem.W.nsIn K mainGlobals "_law_class") (some (some (.ref (He.ga K "_law_class")))), fun K => PySem.W.keepIn K (.ref (He.ga K "_law_class")), fun K => He.eqO (PySem.W.nsIn K mainGlobals "_law_asked") (some (some (.ref (He.ga K "_law_asked")))), fun K => PySem.W.keepIn K (.ref (He.ga K "_law_asked")), fun K => He.eqO (PySem.W.nsIn K mainGlobals "law") (some (some (.ref (He.ga K "law")))), fun K => PySem.W.keepIn K (.ref (He.ga K "law"))]
def ex : List (PySem.W.Frag → Bool) := ex0 ++ (ex1 ++ (ex2 ++ (ex3 ++ (ex4 ++ (ex5 ++ (ex6 ++ (ex7)))))))
abbrev hk : PySem.W.Hook := Hd.hookX 3 ask [] fn ex
def ob (s : PySem.W.SharedT) : Hd.AlX := Hd.obsXG 3 ask [] fn ex (HandSHeadRun.getT s)
theorem ob_eq (s : PySem.W.SharedT) : ob s = hk.obs s.abs := Hd.obsXG_eq (HandSHeadRun.getT_eq s)
theorem run (w : World) : HandSHeadRun.RunEq R qv hk ob 7000 names w := by
  intro os
  kernel_rfl
theorem facts {w : World} {K : PySem.W.Frag} {h : Heap} {mg : Str → Option Value} {fa : Addr} (KX : K.In h) (G : h.Ns mainGlobals mg) (hmg : mg "law" = some (.ref fa)) (c : Hd.obsX [] fn ex K = Hd.valX fn) :
    ∃ fd : FuncData, (∀ (s : Shared) (v : Value), BindsTo s fd ⟨[v], []⟩ [("_law_script", v)]) ∧ ∀ base : Heap, K.In base → base.Ns mainGlobals mg → FnOk (PySem.Challenge.rw_mixedmeets_k44_nought_refused).prog w K mg base L2.CX0 5 fa fd Lw.P_law (Dv.spD K [false] Lw.ev_law) := by
  obtain ⟨_, _, _, _, _, _, _, _, _, hl0, hc0⟩ := (Hd.saysE c).def_ 0 (d := dn0) rfl
  obtain ⟨_, _, _, _, _, _, _, _, _, hl1, hc1⟩ := (Hd.saysE c).def_ 1 (d := dn1) rfl
  obtain ⟨_, _, _, _, _, _, _, _, _, hl2, hc2⟩ := (Hd.saysE c).def_ 2 (d := dn2) rfl
  obtain ⟨_, _, _, _, _, _, _, _, _, hl3, hc3⟩ := (Hd.saysE c).def_ 3 (d := dn3) rfl
  obtain ⟨_, _, _, _, _, _, _, _, _, hl4, hc4⟩ := (Hd.saysE c).def_ 4 (d := dn4) rfl
  obtain ⟨_, _, _, _, _, _, _, _, _, hl5, hc5⟩ := (Hd.saysE c).def_ 5 (d := dn5) rfl
  obtain ⟨_, _, _, _, _, _, _, _, _, hl6, hc6⟩ := (Hd.saysE c).def_ 6 (d := dn6) rfl
  obtain ⟨_, _, _, _, _, _, _, _, _, hl7, hc7⟩ := (Hd.saysE c).def_ 7 (d := dn7) rfl
  obtain ⟨_, _, _, _, _, _, _, _, _, hl8, hc8⟩ := (Hd.saysE c).def_ 8 (d := dn8) rfl
  obtain ⟨_, _, _, _, _, _, _, _, _, hl9, hc9⟩ := (Hd.saysE c).def_ 9 (d := dn9) rfl
  obtain ⟨_, _, _, _, _, _, _, _, _, hl10, hc10⟩ := (Hd.saysE c).def_ 10 (d := dn10) rfl
  obtain ⟨_, _, _, _, _, _, _, _, _, hl11, hc11⟩ := (Hd.saysE c).def_ 11 (d := dn11) rfl
  obtain ⟨_, _, _, _, _, _, _, _, _, hl12, hc12⟩ := (Hd.saysE c).def_ 12 (d := dn12) rfl
  obtain ⟨_, _, _, _, _, _, _, _, _, hl13, hc13⟩ := (Hd.saysE c).def_ 13 (d := dn13) rfl
  exact Lw.all_mk (l := PySem.Challenge.rw_mixedmeets_k44_nought_refused) KX G hmg (He.eqO_ok (Hd.exOf c 0 (f := fun K => He.eqO (PySem.W.nsIn K mainGlobals "ValueError") (some none)) rfl)) (He.eqO_ok (Hd.exOf c 1 (f := fun K => He.eqO (PySem.W.nsIn K mainGlobals "abs") (some none)) rfl)) (He.eqO_ok (Hd.exOf c 2 (f := fun K => He.eqO (PySem.W.nsIn K mainGlobals "isinstance") (some none)) rfl)) (He.eqO_ok (Hd.exOf c 3 (f := fun K => He.eqO (PySem.W.nsIn K mainGlobals "len") (some none)) rfl)) (He.eqO_ok (Hd.exOf c 4 (f := fun K => He.eqO (PySem.W.nsIn K mainGlobals "list") (some none)) rfl)) (He.eqO_ok (Hd.exOf c 5 (f := fun K => He.eqO (PySem.W.nsIn K mainGlobals "range") (some none)) rfl)) (He.eqO_ok (Hd.exOf c 6 (f := fun K => He.eqO (PySem.W.nsIn K mainGlobals "sorted") (some none)) rfl)) (He.eqO_ok (Hd.exOf c 7 (f := fun K => He.eqO (PySem.W.nsIn K mainGlobals "MeetError") (some (some (.ref (He.ga K "MeetError"))))) rfl)) (He.eqO_ok (Hd.exOf c 8 (f := fun K => He.eqO (PySem.W.nsIn K mainGlobals "NoRatio") (some (some (.ref (He.ga K "NoRatio"))))) rfl)) (He.eqO_ok (Hd.exOf c 9 (f := fun K => He.eqO (PySem.W.nsIn K mainGlobals "Nought") (some (some (.ref (He.ga K "Nought"))))) rfl)) (He.eqO_ok (Hd.exOf c 10 (f := fun K => He.eqO (PySem.W.nsIn K mainGlobals "NoTable") (some (some (.ref (He.ga K "NoTable"))))) rfl)) (He.eqO_ok (Hd.exOf c 11 (f := fun K => He.eqO (PySem.W.nsIn K mainGlobals "NoStep") (some (some (.ref (He.ga K "NoStep"))))) rfl)) (He.eqO_ok (Hd.exOf c 12 (f := fun K => He.eqO (PySem.W.nsIn K mainGlobals "NoSide") (some (some (.ref (He.ga K "NoSide"))))) rfl)) (He.eqO_ok (Hd.exOf c 13 (f := fun K => He.eqO (PySem.W.nsIn K mainGlobals "NoPart") (some (some (.ref (He.ga K "NoPart"))))) rfl)) (He.eqO_ok (Hd.exOf c 14 (f := fun K => He.eqO (PySem.W.nsIn K mainGlobals "TooMuch") (some (some (.ref (He.ga K "TooMuch"))))) rfl)) (He.eqO_ok (Hd.exOf c 15 (f := fun K => He.eqO (PySem.W.nsIn K mainGlobals "CommonPart") (some (some (.ref (He.ga K "CommonPart"))))) rfl)) (He.eqO_ok (Hd.exOf c 16 (f := fun K => He.eqO (PySem.W.nsIn K mainGlobals "NoText") (some (some (.ref (He.ga K "NoText"))))) rfl)) (He.eqO_ok (Hd.exOf c 17 (f := fun K => He.eqO (PySem.W.nsIn K mainGlobals "NoName") (some (some (.ref (He.ga K "NoName"))))) rfl)) (He.eqO_ok (Hd.exOf c 18 (f := fun K => He.eqO (PySem.W.nsIn K mainGlobals "Rests") (some (some (.ref (He.ga K "Rests"))))) rfl)) (Hd.exOf c 19 (f := fun K => PySem.W.hasDictIn K (He.ga K "Nought")) rfl) (of_decide_eq_true (Hd.exOf c 20 (f := fun K => decide (PySem.W.typeIn K (.ref (He.ga K "Nought")) = some (.type "type"))) rfl)) (Hd.exOf c 21 (f := fun K => PySem.W.hasDictIn K (He.ga K "TooMuch")) rfl) (of_decide_eq_true (Hd.exOf c 22 (f := fun K => decide (PySem.W.typeIn K (.ref (He.ga K "TooMuch")) = some (.type "type"))) rfl)) (Hd.exOf c 23 (f := fun K => PySem.W.hasDictIn K (He.ga K "CommonPart")) rfl) (of_decide_eq_true (Hd.exOf c 24 (f := fun K => decide (PySem.W.typeIn K (.ref (He.ga K "CommonPart")) = some (.type "type"))) rfl)) (Hd.exOf c 25 (f := fun K => PySem.W.hasDictIn K (He.ga K "NoPart")) rfl) (of_decide_eq_true (Hd.exOf c 26 (f := fun K => decide (PySem.W.typeIn K (.ref (He.ga K "NoPart")) = some (.type "type"))) rfl)) (Hd.exOf c 27 (f := fun K => PySem.W.hasDictIn K (He.ga K "NoRatio")) rfl) (of_decide_eq_true (Hd.exOf c 28 (f := fun K => decide (PySem.W.typeIn K (.ref (He.ga K "NoRatio")) = some (.type "type"))) rfl)) (Hd.exOf c 29 (f := fun K => PySem.W.hasDictIn K (He.ga K "NoSide")) rfl) (of_decide_eq_true (Hd.exOf c 30 (f := fun K => decide (PySem.W.typeIn K (.ref (He.ga K "NoSide")) = some (.type "type"))) rfl)) (Hd.exOf c 31 (f := fun K => PySem.W.hasDictIn K (He.ga K "NoStep")) rfl) (of_decide_eq_true (Hd.exOf c 32 (f := fun K => decide (PySem.W.typeIn K (.ref (He.ga K "NoStep")) = some (.type "type"))) rfl)) (Hd.exOf c 33 (f := fun K => PySem.W.hasDictIn K (He.ga K "NoTable")) rfl) (of_decide_eq_true (Hd.exOf c 34 (f := fun K => decide (PySem.W.typeIn K (.ref (He.ga K "NoTable")) = some (.type "type"))) rfl)) (Hd.exOf c 35 (f := fun K => PySem.W.hasDictIn K (He.ga K "NoText")) rfl) (of_decide_eq_true (Hd.exOf c 36 (f := fun K => decide (PySem.W.typeIn K (.ref (He.ga K "NoText")) = some (.type "type"))) rfl)) (Hd.exOf c 37 (f := fun K => PySem.W.hasDictIn K (He.ga K "NoName")) rfl) (of_decide_eq_true (Hd.exOf c 38 (f := fun K => decide (PySem.W.typeIn K (.ref (He.ga K "NoName")) = some (.type "type"))) rfl)) (Hd.exOf c 39 (f := fun K => PySem.W.hasDictIn K (He.ga K "MeetError")) rfl) (of_decide_eq_true (Hd.exOf c 40 (f := fun K => decide (PySem.W.typeIn K (.ref (He.ga K "MeetError")) = some (.type "type"))) rfl)) (of_decide_eq_true (Hd.exOf c 41 (f := fun K => decide (PySem.W.subIn K (.ref (He.ga K "MeetError")) (.type "BaseException") = some true)) rfl)) (of_decide_eq_true (Hd.exOf c 42 (f := fun K => decide (PySem.W.subIn K (.ref (He.ga K "Nought")) (.ref (He.ga K "Nought")) = some true)) rfl)) (of_decide_eq_true (Hd.exOf c 43 (f := fun K => decide (PySem.W.subIn K (.ref (He.ga K "Nought")) (.ref (He.ga K "TooMuch")) = some false)) rfl)) (of_decide_eq_true (Hd.exOf c 44 (f := fun K => decide (PySem.W.subIn K (.ref (He.ga K "Nought")) (.ref (He.ga K "CommonPart")) = some false)) rfl)) (of_decide_eq_true (Hd.exOf c 45 (f := fun K => decide (PySem.W.subIn K (.ref (He.ga K "Nought")) (.ref (He.ga K "NoPart")) = some false)) rfl)) (of_decide_eq_true (Hd.exOf c 46 (f := fun K => decide (PySem.W.subIn K (.ref (He.ga K "Nought")) (.ref (He.ga K "NoRatio")) = some false)) rfl)) (of_decide_eq_true (Hd.exOf c 47 (f := fun K => decide (PySem.W.subIn K (.ref (He.ga K "Nought")) (.ref (He.ga K "NoSide")) = some false)) rfl)) (of_decide_eq_true (Hd.exOf c 48 (f := fun K => decide (PySem.W.subIn K (.ref (He.ga K "Nought")) (.ref (He.ga K "NoStep")) = some false)) rfl)) (of_decide_eq_true (Hd.exOf c 49 (f := fun K => decide (PySem.W.subIn K (.ref (He.ga K "Nought")) (.ref (He.ga K "NoTable")) = some false)) rfl)) (of_decide_eq_true (Hd.exOf c 50 (f := fun K => decide (PySem.W.subIn K (.ref (He.ga K "Nought")) (.ref (He.ga K "NoText")) = some false)) rfl)) (of_decide_eq_true (Hd.exOf c 51 (f := fun K => decide (PySem.W.subIn K (.ref (He.ga K "Nought")) (.ref (He.ga K "NoName")) = some false)) rfl)) (of_decide_eq_true (Hd.exOf c 52 (f := fun K => decide (PySem.W.subIn K (.ref (He.ga K "Nought")) (.ref (He.ga K "MeetError")) = some true)) rfl)) (of_decide_eq_true (Hd.exOf c 53 (f := fun K => decide (PySem.W.subIn K (.ref (He.ga K "Nought")) (.type "ValueError") = some true)) rfl)) (Hd.exOf c 54 (f := fun K => PySem.W.excIn K (He.ga K "Nought") [.type "ValueError", .type "Exception", .type "BaseException", .type "object"] "ValueError.__new__") rfl) (Hd.exOf c 55 (f := fun K => PySem.W.keepIn K (.ref (He.ga K "Nought"))) rfl) (of_decide_eq_true (Hd.exOf c 56 (f := fun K => decide (PySem.W.subIn K (.ref (He.ga K "Nought")) (.type "BaseException") = some true)) rfl)) (of_decide_eq_true (Hd.exOf c 20 (f := fun K => decide (PySem.W.typeIn K (.ref (He.ga K "Nought")) = some (.type "type"))) rfl)) (He.eqO_ok (Hd.exOf c 57 (f := fun K => He.eqO (PySem.W.findIn K (.ref (He.ga K "Nought")) "__getattribute__") (some (some (.builtin "BaseException.__getattribute__")))) rfl)) (He.eqO_ok (Hd.exOf c 58 (f := fun K => He.eqO (PySem.W.findIn K (.ref (He.ga K "Nought")) "__getattr__") (some none)) rfl)) (Hd.exOf c 19 (f := fun K => PySem.W.hasDictIn K (He.ga K "Nought")) rfl) (He.eqO_ok (Hd.exOf c 59 (f := fun K => He.eqO (PySem.W.findIn K (.ref (He.ga K "Nought")) "__class__") (some (some (.builtin "object.__class__")))) rfl)) (of_decide_eq_true (Hd.exOf c 60 (f := fun K => decide (PySem.W.specialIn K (.builtin "object.__class__") "__get__" = some (some (.builtin "getset_descriptor.__get__")))) rfl)) (of_decide_eq_true (Hd.exOf c 61 (f := fun K => decide (PySem.W.takesIn K (.builtin "object.__class__") = some true)) rfl)) (of_decide_eq_true (Hd.exOf c 62 (f := fun K => decide (PySem.W.mroIn K (He.ga K "Nought") (.type "object") = some true)) rfl)) (He.eqO_ok (Hd.exOf c 63 (f := fun K => He.eqO (PySem.W.nsIn K mainGlobals "look_sums") (some (some (.ref (He.ga K "look_sums"))))) rfl)) hl0 hc0 (Hd.exOf c 64 (f := fun K => PySem.W.keepIn K (.ref (He.ga K "look_sums"))) rfl) (He.eqO_ok (Hd.exOf c 65 (f := fun K => He.eqO (PySem.W.nsIn K mainGlobals "eliminant") (some (some (.ref (He.ga K "eliminant"))))) rfl)) hl1 hc1 (Hd.exOf c 66 (f := fun K => PySem.W.keepIn K (.ref (He.ga K "eliminant"))) rfl) (He.eqO_ok (Hd.exOf c 67 (f := fun K => He.eqO (PySem.W.nsIn K mainGlobals "common") (some (some (.ref (He.ga K "common"))))) rfl)) hl2 hc2 (Hd.exOf c 68 (f := fun K => PySem.W.keepIn K (.ref (He.ga K "common"))) rfl) (He.eqO_ok (Hd.exOf c 69 (f := fun K => He.eqO (PySem.W.nsIn K mainGlobals "parted") (some (some (.ref (He.ga K "parted"))))) rfl)) hl3 hc3 (Hd.exOf c 70 (f := fun K => PySem.W.keepIn K (.ref (He.ga K "parted"))) rfl) (Hd.exOf c 71 (f := fun K => PySem.W.makesIn K (He.ga K "Rests")) rfl) (He.eqO_ok (Hd.exOf c 72 (f := fun K => He.eqO (PySem.W.findIn K (.ref (He.ga K "Rests")) "__init__") (some (some (.ref (He.ma K (He.ga K "Rests") "__init__"))))) rfl)) (Hd.exOf c 73 (f := fun K => PySem.W.isFn K (.ref (He.ma K (He.ga K "Rests") "__init__"))) rfl) (Hd.exOf c 74 (f := fun K => PySem.W.keepIn K (.ref (He.ga K "Rests"))) rfl) hl4 hc4 (Hd.exOf c 75 (f := fun K => PySem.W.keepIn K (.ref (He.ma K (He.ga K "Rests") "__init__"))) rfl) (He.eqO_ok (Hd.exOf c 76 (f := fun K => He.eqO (PySem.W.nsIn K mainGlobals "_law_pool") (some (some (.ref (He.ga K "_law_pool"))))) rfl)) hl5 hc5 (Hd.exOf c 77 (f := fun K => PySem.W.keepIn K (.ref (He.ga K "_law_pool"))) rfl) (He.eqO_ok (Hd.exOf c 78 (f := fun K => He.eqO (PySem.W.nsIn K mainGlobals "_law_take") (some (some (.ref (He.ga K "_law_take"))))) rfl)) hl6 hc6 (Hd.exOf c 79 (f := fun K => PySem.W.keepIn K (.ref (He.ga K "_law_take"))) rfl) (He.eqO_ok (Hd.exOf c 80 (f := fun K => He.eqO (PySem.W.nsIn K mainGlobals "_law_low") (some (some (.ref (He.ga K "_law_low"))))) rfl)) hl7 hc7 (Hd.exOf c 81 (f := fun K => PySem.W.keepIn K (.ref (He.ga K "_law_low"))) rfl) (He.eqO_ok (Hd.exOf c 82 (f := fun K => He.eqO (PySem.W.nsIn K mainGlobals "_law_told") (some (some (.ref (He.ga K "_law_told"))))) rfl)) hl8 hc8 (Hd.exOf c 83 (f := fun K => PySem.W.keepIn K (.ref (He.ga K "_law_told"))) rfl) (He.eqO_ok (Hd.exOf c 84 (f := fun K => He.eqO (PySem.W.nsIn K mainGlobals "_law_number") (some (some (.ref (He.ga K "_law_number"))))) rfl)) hl9 hc9 (Hd.exOf c 85 (f := fun K => PySem.W.keepIn K (.ref (He.ga K "_law_number"))) rfl) (He.eqO_ok (Hd.exOf c 86 (f := fun K => He.eqO (PySem.W.nsIn K mainGlobals "_law_sum_by") (some (some (.ref (He.ga K "_law_sum_by"))))) rfl)) hl10 hc10 (Hd.exOf c 87 (f := fun K => PySem.W.keepIn K (.ref (He.ga K "_law_sum_by"))) rfl) (He.eqO_ok (Hd.exOf c 88 (f := fun K => He.eqO (PySem.W.nsIn K mainGlobals "_law_class") (some (some (.ref (He.ga K "_law_class"))))) rfl)) hl11 hc11 (Hd.exOf c 89 (f := fun K => PySem.W.keepIn K (.ref (He.ga K "_law_class"))) rfl) (He.eqO_ok (Hd.exOf c 90 (f := fun K => He.eqO (PySem.W.nsIn K mainGlobals "_law_asked") (some (some (.ref (He.ga K "_law_asked"))))) rfl)) hl12 hc12 (Hd.exOf c 91 (f := fun K => PySem.W.keepIn K (.ref (He.ga K "_law_asked"))) rfl) (He.eqO_ok (Hd.exOf c 92 (f := fun K => He.eqO (PySem.W.nsIn K mainGlobals "law") (some (some (.ref (He.ga K "law"))))) rfl)) hl13 hc13 (Hd.exOf c 93 (f := fun K => PySem.W.keepIn K (.ref (He.ga K "law"))) rfl)
end Hx
open PySem PySem.W PySem.Calls PyProof.Rows
theorem PySem.Challenge.cw_mixedmeets_k44_nought_refused_holds : PySem.Challenge.rw_mixedmeets_k44_nought_refused.Holds := by
  w_on; o_law
  refine HandSHeadRun.head_any (r := OpenLaw.row PySem.Challenge.rw_mixedmeets_k44_nought_refused) (q := Hx.qv) (H := Hx.hk) (ob := Hx.ob) (M := 7000) (loose := Hx.names) (d := HandSHeadRun.topDef (OpenLaw.row PySem.Challenge.rw_mixedmeets_k44_nought_refused).prog 131) (kwd := []) Hx.ob_eq
    (by kernel_rfl) (fun s => by kernel_rfl) Hx.run (by kernel_rfl) (by kernel_rfl) (by kernel_rfl) (by rfl) (by first | assumption | decide +kernel) (by decide +kernel) ⟨rfl, rfl, rfl, rfl, rfl, by decide +kernel⟩ ?hw ?hc
  case hw => w_witness2
  case hc =>
    refine Hd.walk_ofN (l := PySem.Challenge.rw_mixedmeets_k44_nought_refused) (n := 63) (k := 5) (x := "_law_script") (CX := L2.CX0) rfl (by decide) (by kernel_rfl) ⟨rfl, by decide, by decide⟩ ?F (fun _ _ _ _ z => z)
    intro w mg fa h Y G hmg0
    obtain ⟨K, KX, c⟩ := Y
    have hmg : mg ("law" : PySem.Str) = some (.ref fa) := by
      have e : (HandSHeadRun.topDef (OpenLaw.row PySem.Challenge.rw_mixedmeets_k44_nought_refused).prog 131).name = ("law" : PySem.Str) := by kernel_rfl
      rw [← e]
      exact hmg0
    obtain ⟨fd, hb, hF⟩ := Hx.facts (w := w) KX G hmg c
    exact ⟨K, fd, _, KX, hb, fun H a ns hl hb _ hS => Dv.law_sp (Lw.law_true ns hl) hS, hF⟩
