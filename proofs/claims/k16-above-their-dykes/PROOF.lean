import PyProof.Rows.All
import Wide.All
import OpenK.AllK
import Wide.FinOn
import HandS.ForMost
import HandS.Style
import HandS.Zip
import HandS.IsInst
import HandS.TupAny
import HandS.Walk
import HandS.Wide
import HandS.TupMul
import HandS.Sort
import HandS.Deep
import HandS.RaiseMore
import HandS.Remove
import HandS.SetFor
import HandS.Text
import PyProof.Rows.RegReprOcc
import KE.SortData
import KE.KDictZip
import KE.GoesMore
import HandS.ListItems
import HandS.DictTup
import HandS.Conv
import KE.KDictSum
import KE.KDictPairs
import KE.GoesEnum
import HandS.TryOnly
import HandS.More
import KE.DataMinMax
import PyProof.Rows.SumAny
import PySem.Challenge.RW_wetfields_k16_stands_above_their_dykes
set_option Elab.async false
set_option linter.all false
set_option maxRecDepth 100000
set_option maxHeartbeats 4000000
namespace PD
open PySem PySem.Spec PyProof.Rows L2

/-- plain data -/
inductive D where
  | non | bl (b : Bool) | int (i : Int) | str (x : Str)
  | tup (ds : List D) | lst (ds : List D)
  | dk (es : List (Key × D)) | dt (es : List (List Key × D))
  /-- the script: read, never changed -/
  | sc (ns : List Int)
  /-- a built-in class -/
  | ty (n : String)
  /-- a text that is told of data -/
  | txt (x : Str)
  /-- a tuple that is known to have no dict of its own -/
  | tp (ds : List D)

/-- a tuple that was made -/
def TuT (_ : PySem.W.Frag) (B : Hp) (a : Addr) (xs : List V) : Prop := B a = some (.tup xs)
theorem TuT.sq {K : PySem.W.Frag} {B : Hp} {a : Addr} {xs : List V} (h : TuT K B a xs) : SqT K B a xs := .inl (.inl h)
theorem TuT.same {K : PySem.W.Frag} {B B' : Hp} {a : Addr} {xs : List V} (s : Same B B') (h : TuT K B a xs) : TuT K B' a xs := s _ _ h
mutual
/-- the value v stands for d, all of it in the frozen part B -/
inductive Rp (K : PySem.W.Frag) (B : Hp) : D → V → Prop
  | non : Rp K B .non .non
  | bl (b : Bool) : Rp K B (.bl b) (.bl b)
  | int (i : Int) : Rp K B (.int i) (.int i)
  | str (x : Str) (h : PyData.strOk x = true) : Rp K B (.str x) (.str x)
  | ty (n : String) : Rp K B (.ty n) (.ty n)
  | txt (x : Str) : Rp K B (.txt x) (.str x)
  | tup {a : Addr} {xs : List V} {ds : List D} : TuT K B a xs → Rps K B ds xs → Rp K B (.tup ds) (.ref a)
  | lst {a : Addr} {xs : List V} {ds : List D} : B a = some (.lst xs) → Rps K B ds xs → Rp K B (.lst ds) (.ref a)
  | sc {a : Addr} {ns : List Int} : SqL K B a (ns.map V.int) → Rp K B (.sc ns) (.ref a)
  | tp {a : Addr} {o : Obj} {xs : List V} {ds : List D} : B a = some (.frz o (.tup xs)) → o.dict = none → Rps K B ds xs → Rp K B (.tp ds) (.ref a)
  | dk {a : Addr} {kvs : List (Key × V)} {es : List (Key × D)} : B a = some (.dK kvs) → es.map (·.1) = kvs.map (·.1) → Rps K B (es.map (·.2)) (kvs.map (·.2)) → Rp K B (.dk es) (.ref a)
  | dt {a : Addr} {kvs : List (List Key × V)} {es : List (List Key × D)} : B a = some (.dT kvs) → es.map (·.1) = kvs.map (·.1) → Rps K B (es.map (·.2)) (kvs.map (·.2)) → Rp K B (.dt es) (.ref a)
inductive Rps (K : PySem.W.Frag) (B : Hp) : List D → List V → Prop
  | nil : Rps K B [] []
  | cons {d : D} {v : V} {ds : List D} {vs : List V} : Rp K B d v → Rps K B ds vs → Rps K B (d :: ds) (v :: vs)
end

theorem sameL {K : PySem.W.Frag} {B B' : Hp} {a : Addr} {xs : List V} (s : Same B B') (h : SqL K B a xs) : SqL K B' a xs := s.seq h
theorem sameT {K : PySem.W.Frag} {B B' : Hp} {a : Addr} {xs : List V} (s : Same B B') (h : SqT K B a xs) : SqT K B' a xs := by
  rcases h with (h | ⟨o, h⟩) | h
  · exact .inl (.inl (s _ _ h))
  · exact .inl (.inr ⟨o, s _ _ h⟩)
  · exact .inr h

mutual
theorem Rp.mono {K : PySem.W.Frag} {B B' : Hp} (s : Same B B') : ∀ {d : D} {v : V}, Rp K B d v → Rp K B' d v
  | _, _, .non => .non
  | _, _, .bl b => .bl b
  | _, _, .int i => .int i
  | _, _, .str x h => .str x h
  | _, _, .ty n => .ty n
  | _, _, .txt x => .txt x
  | _, _, .tup h r => .tup (h.same s) (Rps.mono s r)
  | _, _, .lst h r => .lst (s _ _ h) (Rps.mono s r)
  | _, _, .sc h => .sc (sameL s h)
  | _, _, .tp h d r => .tp (s _ _ h) d (Rps.mono s r)
  | _, _, .dk h e r => .dk (s _ _ h) e (Rps.mono s r)
  | _, _, .dt h e r => .dt (s _ _ h) e (Rps.mono s r)
theorem Rps.mono {K : PySem.W.Frag} {B B' : Hp} (s : Same B B') : ∀ {ds : List D} {vs : List V}, Rps K B ds vs → Rps K B' ds vs
  | _, _, .nil => .nil
  | _, _, .cons h r => .cons (Rp.mono s h) (Rps.mono s r)
end

section
variable {K : PySem.W.Frag} {B : Hp}
theorem Rps.length : ∀ {ds : List D} {vs : List V}, Rps K B ds vs → ds.length = vs.length
  | _, _, .nil => rfl
  | _, _, .cons _ r => by rw [List.length_cons, List.length_cons, Rps.length r]
theorem Rps.get : ∀ {ds : List D} {vs : List V} {i : Nat} {d : D}, Rps K B ds vs → ds[i]? = some d → ∃ v, vs[i]? = some v ∧ Rp K B d v
  | _, _, _, _, .nil, e => by simp at e
  | _, _, 0, _, .cons r _, e => by
    simp at e
    subst e
    exact ⟨_, rfl, r⟩
  | _, _, i + 1, d, .cons _ t, e => by
    obtain ⟨v, h1, h2⟩ := Rps.get (i := i) (d := d) t (by simpa using e)
    exact ⟨v, by simpa using h1, h2⟩
theorem Rps.getV : ∀ {ds : List D} {vs : List V} {i : Nat} {v : V}, Rps K B ds vs → vs[i]? = some v → ∃ d, ds[i]? = some d ∧ Rp K B d v
  | _, _, _, _, .nil, e => by simp at e
  | _, _, 0, _, .cons r _, e => by
    simp at e
    subst e
    exact ⟨_, rfl, r⟩
  | _, _, i + 1, v, .cons _ t, e => by
    obtain ⟨d, h1, h2⟩ := Rps.getV (i := i) (v := v) t (by simpa using e)
    exact ⟨d, by simpa using h1, h2⟩
theorem Rps.app : ∀ {ds es : List D} {vs us : List V}, Rps K B ds vs → Rps K B es us → Rps K B (ds ++ es) (vs ++ us)
  | _, _, _, _, .nil, s => s
  | _, _, _, _, .cons r t, s => .cons r (Rps.app t s)
theorem Rps.take : ∀ {ds : List D} {vs : List V} (n : Nat), Rps K B ds vs → Rps K B (ds.take n) (vs.take n)
  | _, _, 0, _ => .nil
  | _, _, _ + 1, .nil => .nil
  | _, _, n + 1, .cons r t => .cons r (Rps.take n t)
theorem Rps.drop : ∀ {ds : List D} {vs : List V} (n : Nat), Rps K B ds vs → Rps K B (ds.drop n) (vs.drop n)
  | _, _, 0, r => r
  | _, _, _ + 1, .nil => .nil
  | _, _, n + 1, .cons _ t => Rps.drop n t
theorem Rps.set {d : D} {v : V} (r : Rp K B d v) : ∀ {ds : List D} {vs : List V} (i : Nat), Rps K B ds vs → Rps K B (ds.set i d) (vs.set i v)
  | _, _, _, .nil => .nil
  | _, _, 0, .cons _ t => .cons r t
  | _, _, i + 1, .cons q t => .cons q (Rps.set r i t)
theorem Rps.erase : ∀ {ds : List D} {vs : List V} (i : Nat), Rps K B ds vs → Rps K B (ds.eraseIdx i) (vs.eraseIdx i)
  | _, _, _, .nil => .nil
  | _, _, 0, .cons _ t => t
  | _, _, i + 1, .cons q t => .cons q (Rps.erase i t)
theorem Rps.rev : ∀ {ds : List D} {vs : List V}, Rps K B ds vs → Rps K B ds.reverse vs.reverse
  | _, _, .nil => .nil
  | _, _, .cons r t => by
    rw [List.reverse_cons, List.reverse_cons]
    exact Rps.app (Rps.rev t) (.cons r .nil)
theorem Rps.one {d : D} {v : V} (r : Rp K B d v) : Rps K B [d] [v] := .cons r .nil
theorem Rps.repl {ds : List D} {vs : List V} (r : Rps K B ds vs) : ∀ n : Nat, Rps K B (List.replicate n ds).flatten (List.replicate n vs).flatten
  | 0 => .nil
  | n + 1 => by
    rw [List.replicate_succ, List.replicate_succ, List.flatten_cons, List.flatten_cons]
    exact Rps.app r (Rps.repl r n)
theorem Rps.ints : ∀ {ns : List Int} {vs : List V}, Rps K B (ns.map D.int) vs → vs = ns.map V.int
  | [], _, .nil => rfl
  | n :: ns, _, .cons h r => by
    cases h
    rw [List.map_cons, Rps.ints r]
theorem Rps.of_ints : ∀ ns : List Int, Rps K B (ns.map D.int) (ns.map V.int)
  | [] => .nil
  | n :: ns => .cons (.int n) (Rps.of_ints ns)
theorem Rps.bls : ∀ {bs : List Bool} {vs : List V}, Rps K B (bs.map D.bl) vs → vs = bs.map V.bl
  | [], _, .nil => rfl
  | n :: ns, _, .cons h r => by
    cases h
    rw [List.map_cons, Rps.bls r]
theorem Rps.strs : ∀ {xs : List Str} {vs : List V}, Rps K B (xs.map D.str) vs → vs = xs.map V.str
  | [], _, .nil => rfl
  | n :: ns, _, .cons h r => by
    cases h
    rw [List.map_cons, Rps.strs r]
theorem Rps.strs_ok : ∀ {xs : List Str} {vs : List V}, Rps K B (xs.map D.str) vs → ∀ x ∈ xs, PyData.strOk x = true
  | [], _, .nil, _, h => by simp at h
  | n :: ns, _, .cons h r, x, hx => by
    cases h with
    | str _ ho =>
      rcases List.mem_cons.mp hx with rfl | hx
      · exact ho
      · exact Rps.strs_ok r x hx
end

/-! ### slots -/
inductive Sl where
  /-- nothing known -/
  | em
  /-- frozen data -/
  | im (d : D)
  /-- a list or dict of this def's own, held by this slot alone -/
  | ow (d : D)
  /-- a list or dict of the caller's, handed in to be changed -/
  | io (j : Nat) (d : D)
abbrev Env := List Sl

/-- where a def began: the heap, its frozen part, the caller's things that it may change -/
structure Anc where
  H0 : Hp
  B0 : Hp
  io : Nat → Option Addr
def Anc.isIo (A : Anc) (a : Addr) : Prop := ∃ j, A.io j = some a

/-- what stands at an address is the container d -/
inductive Cont (K : PySem.W.Frag) (B : Hp) : D → Option HO → Prop
  | lst {xs : List V} {ds : List D} : Rps K B ds xs → Cont K B (.lst ds) (some (.lst xs))
  | dk {kvs : List (Key × V)} {es : List (Key × D)} : es.map (·.1) = kvs.map (·.1) → Rps K B (es.map (·.2)) (kvs.map (·.2)) → Cont K B (.dk es) (some (.dK kvs))
  | dt {kvs : List (List Key × V)} {es : List (List Key × D)} : es.map (·.1) = kvs.map (·.1) → Rps K B (es.map (·.2)) (kvs.map (·.2)) → Cont K B (.dt es) (some (.dT kvs))
theorem Cont.mono {K : PySem.W.Frag} {B B' : Hp} (s : Same B B') {d : D} {o : Option HO} (h : Cont K B d o) : Cont K B' d o := by
  cases h with
  | lst r => exact .lst (r.mono s)
  | dk e r => exact .dk e (r.mono s)
  | dt e r => exact .dt e (r.mono s)
theorem Cont.some {K : PySem.W.Frag} {B : Hp} {d : D} {o : Option HO} (h : Cont K B d o) : ∃ u, o = some u := by
  cases h <;> exact ⟨_, rfl⟩
/-- a tuple's -/
def TuO : HO → Prop
  | .tup _ => True
  | .frz _ (.tup _) => True
  | _ => False
theorem Cont.nu {K : PySem.W.Frag} {B : Hp} {d : D} {o : HO} (h : Cont K B d (Option.some o)) : ¬ TuO o := by
  cases h <;> exact fun z => z
theorem Cont.nt {K : PySem.W.Frag} {B : Hp} {d : D} {o : HO} (h : Cont K B d (Option.some o)) (ts : List V) : o ≠ .tup ts := by
  cases h <;> exact fun z => nomatch z
theorem Cont.frozen {K : PySem.W.Frag} {B B' : Hp} (s : Same B B') {d : D} {o : Option HO} {p : Addr} (h : Cont K B d o) (e : B' p = o) : Rp K B' d (.ref p) := by
  cases h with
  | lst r => exact .lst e (r.mono s)
  | dk e1 r => exact .dk e e1 (r.mono s)
  | dt e1 r => exact .dt e e1 (r.mono s)

def Sl.mut : Sl → Bool
  | .ow _ => true
  | .io _ _ => true
  | _ => false
inductive SlOk (K : PySem.W.Frag) (A : Anc) (B H : Hp) : Sl → Option V → Prop
  | em {o : Option V} : SlOk K A B H .em o
  | im {d : D} {v : V} : Rp K B d v → SlOk K A B H (.im d) (some v)
  | ow {d : D} {p : Addr} : B p = none → A.H0 p = none → Cont K B d (H p) → SlOk K A B H (.ow d) (some (.ref p))
  | io {d : D} {p : Addr} {j : Nat} : A.io j = some p → Cont K B d (H p) → SlOk K A B H (.io j d) (some (.ref p))

structure SR (K : PySem.W.Frag) (A : Anc) (B H : Hp) (σ : L2.St) (env : Env) : Prop where
  len : σ.length = env.length
  same : Same B H
  slot : ∀ (i : Nat) (sl : Sl) (ov : Option V), env[i]? = some sl → σ[i]? = some ov → SlOk K A B H sl ov
  inj : ∀ (i j : Nat) (p : Addr) (sl sl' : Sl), i ≠ j → env[i]? = some sl → env[j]? = some sl' → sl.mut = true → sl'.mut = true → σ[i]? = some (some (.ref p)) → σ[j]? = some (some (.ref p)) → False
  anc : ∀ a o, A.H0 a = some o → ¬ A.isIo a → H a = some o ∧ (B a = A.B0 a ∨ ∃ ts, o = .tup ts)
  iob : ∀ a, A.isIo a → B a = none ∧ ∃ o, H a = some o ∧ ∀ ts, o ≠ .tup ts
  ioh : ∀ a, A.isIo a → ∃ o, A.H0 a = some o

section
variable {K : PySem.W.Frag} {A : Anc} {B H : Hp} {σ : L2.St} {env : Env}
/-- an address that nothing is tracked at is new to the def -/
theorem SR.new (S : SR K A B H σ env) {p : Addr} (h : H p = none) : B p = none ∧ A.H0 p = none ∧ ¬ A.isIo p := by
  have h1 : ¬ A.isIo p := fun z => by
    obtain ⟨_, o, e, _⟩ := S.iob p z
    rw [h] at e
    cases e
  refine ⟨S.same.free h, ?_, h1⟩
  cases e : A.H0 p with
  | none => rfl
  | some o =>
    have := (S.anc p o e h1).1
    rw [h] at this
    cases this
theorem SlOk.grow {sl : Sl} {ov : Option V} {B' H' : Hp} (s : SlOk K A B H sl ov) (hB : Same B B') (hH : ∀ p d, ov = some (.ref p) → sl.mut = true → Cont K B d (H p) → H' p = H p) (hN : ∀ p, ov = some (.ref p) → sl.mut = true → B p = none → B' p = none) : SlOk K A B' H' sl ov := by
  cases s with
  | em => exact .em
  | im r => exact .im (r.mono hB)
  | ow b h c =>
    refine .ow (hN _ rfl rfl b) h ?_
    rw [hH _ _ rfl rfl c]
    exact c.mono hB
  | io h c =>
    refine .io h ?_
    rw [hH _ _ rfl rfl c]
    exact c.mono hB
theorem SlOk.held {sl : Sl} {ov : Option V} (s : SlOk K A B H sl ov) (m : sl.mut = true) : ∃ p d o, ov = some (.ref p) ∧ (sl = .ow d ∨ ∃ j, sl = .io j d) ∧ H p = some o ∧ Cont K B d (some o) := by
  cases s with
  | em => cases m
  | im _ => cases m
  | ow b h c =>
    obtain ⟨o, e⟩ := c.some
    exact ⟨_, _, o, rfl, .inl rfl, e, by rw [← e]; exact c⟩
  | io h c =>
    obtain ⟨o, e⟩ := c.some
    exact ⟨_, _, o, rfl, .inr ⟨_, rfl⟩, e, by rw [← e]; exact c⟩
/-- a new object, not frozen -/
theorem SR.laid (S : SR K A B H σ env) {p : Addr} {o : HO} (h : H p = none) : SR K A B (upd H p o) σ env := by
  obtain ⟨b, h0, hio⟩ := S.new h
  refine ⟨S.len, fun a u e => ?_, fun i sl ov e1 e2 => ?_, S.inj, fun a u e n => ?_, fun a n => ?_, S.ioh⟩
  · have := S.same a u e
    rw [upd_ne (ne_of_none this h)]
    exact this
  · have s := S.slot i sl ov e1 e2
    refine s.grow (Same.refl _) (fun q d e m c => ?_) (fun _ _ _ z => z)
    obtain ⟨u, hu⟩ := c.some
    exact upd_ne (ne_of_none hu h)
  · obtain ⟨e1, e2⟩ := S.anc a u e n
    exact ⟨by rw [upd_ne (ne_of_none e1 h)]; exact e1, e2⟩
  · obtain ⟨b', u, e, nt⟩ := S.iob a n
    exact ⟨b', u, by rw [upd_ne (ne_of_none e h)]; exact e, nt⟩
/-- an object of this def's own that no slot holds is frozen -/
theorem SR.freeze (S : SR K A B H σ env) {p : Addr} {o : HO} (h : H p = some o) (b : B p = none) (h0 : A.H0 p = none) (hs : ∀ (i : Nat) (sl : Sl), env[i]? = some sl → sl.mut = true → σ[i]? ≠ some (some (V.ref p))) : SR K A (upd B p o) H σ env := by
  have hB : Same B (upd B p o) := fun a u e => by
    rw [upd_ne (ne_of_none e b)]
    exact e
  have nio : ¬ A.isIo p := fun z => by
    obtain ⟨u, e⟩ := S.ioh p z
    rw [h0] at e
    cases e
  refine ⟨S.len, fun a u e => ?_, fun i sl ov e1 e2 => ?_, S.inj, fun a u e n => ?_, fun a n => ?_, S.ioh⟩
  · by_cases ha : a = p
    · subst ha
      rw [upd_same] at e
      cases e
      exact h
    · rw [upd_ne ha] at e
      exact S.same a u e
  · have s := S.slot i sl ov e1 e2
    refine s.grow hB (fun _ _ _ _ _ => rfl) (fun q e m z => ?_)
    have : q ≠ p := fun z => hs i sl e1 m (by rw [e2, e, z])
    rw [upd_ne this]
    exact z
  · obtain ⟨e1, e2⟩ := S.anc a u e n
    have : a ≠ p := fun z => by
      rw [z, h0] at e
      cases e
    exact ⟨e1, by rw [upd_ne this]; exact e2⟩
  · obtain ⟨b', u⟩ := S.iob a n
    have : a ≠ p := fun z => nio (z ▸ n)
    exact ⟨by rw [upd_ne this]; exact b', u⟩
/-- a tuple is frozen, whose ever it is -/
theorem SR.freezeT (S : SR K A B H σ env) {p : Addr} {xs : List V} (h : H p = some (.tup xs)) : ∃ B', Same B B' ∧ SR K A B' H σ env ∧ B' p = some (.tup xs) := by
  cases b : B p with
  | some u =>
    have := S.same p u b
    rw [h] at this
    cases this
    exact ⟨B, Same.refl _, S, b⟩
  | none =>
    have hB : Same B (upd B p (.tup xs)) := fun a u e => by
      rw [upd_ne (ne_of_none e b)]
      exact e
    refine ⟨upd B p (.tup xs), hB, ⟨S.len, fun a u e => ?_, fun i sl ov e1 e2 => ?_, S.inj, fun a u e n => ?_, fun a n => ?_, S.ioh⟩, upd_same⟩
    · by_cases ha : a = p
      · subst ha
        rw [upd_same] at e
        cases e
        exact h
      · rw [upd_ne ha] at e
        exact S.same a u e
    · have s := S.slot i sl ov e1 e2
      refine s.grow hB (fun _ _ _ _ _ => rfl) (fun q e m z => ?_)
      obtain ⟨q', d, u, f1, _, f2, f3⟩ := s.held m
      have : q ≠ p := fun z => by
        subst z
        rw [e] at f1
        cases f1
        rw [h] at f2
        cases f2
        exact f3.nt _ rfl
      rw [upd_ne this]
      exact z
    · obtain ⟨e1, e2⟩ := S.anc a u e n
      by_cases ha : a = p
      · subst ha
        rw [h] at e1
        cases e1
        exact ⟨h, .inr ⟨_, rfl⟩⟩
      · exact ⟨e1, by rw [upd_ne ha]; exact e2⟩
    · obtain ⟨b', u, e, nt⟩ := S.iob a n
      have : a ≠ p := fun z => by
        subst z
        rw [h] at e
        cases e
        exact nt _ rfl
      exact ⟨by rw [upd_ne this]; exact b', u, e, nt⟩
/-- a new object is frozen at once -/
theorem SR.laidF (S : SR K A B H σ env) {p : Addr} {o : HO} (h : H p = none) : SR K A (upd B p o) (upd H p o) σ env ∧ Same B (upd B p o) := by
  obtain ⟨b, h0, _⟩ := S.new h
  refine ⟨(S.laid h).freeze upd_same b h0 fun i sl e m z => ?_, fun a u e => ?_⟩
  · obtain ⟨q, d, u, e1, _, e2, _⟩ := (S.slot i sl _ e z).held m
    cases e1
    rw [h] at e2
    cases e2
  · rw [upd_ne (ne_of_none e b)]
    exact e
/-- a held slot more, behind all -/
theorem SR.push (S : SR K A B H σ env) {p : Addr} {o : HO} {d : D} (h : H p = none) (c : Cont K B d (some o)) : SR K A B (upd H p o) (σ ++ [some (.ref p)]) (env ++ [.ow d]) := by
  obtain ⟨b, h0, hio⟩ := S.new h
  have S1 := S.laid (o := o) h
  have old : ∀ (i : Nat) (sl : Sl), env[i]? = some sl → sl.mut = true → σ[i]? ≠ some (some (V.ref p)) := fun i sl e m z => by
    obtain ⟨q, d, u, e1, _, e2, _⟩ := (S.slot i sl _ e z).held m
    cases e1
    rw [h] at e2
    cases e2
  have ge : ∀ i sl, (env ++ [Sl.ow d])[i]? = some sl → (env[i]? = some sl ∧ i < env.length) ∨ (i = env.length ∧ sl = .ow d) := fun i sl e => by
    by_cases hi : i < env.length
    · rw [List.getElem?_append_left hi] at e
      exact .inl ⟨e, hi⟩
    · rw [List.getElem?_append_right (by omega)] at e
      obtain ⟨h1, h2⟩ := List.getElem?_eq_some_iff.mp e
      have h3 : i - env.length = 0 := by simpa using h1
      refine .inr ⟨by omega, ?_⟩
      simp [h3] at h2
      exact h2.symm
  have gs : ∀ i, i < env.length → (σ ++ [some (V.ref p)])[i]? = σ[i]? := fun i hi => List.getElem?_append_left (by rw [S.len]; exact hi)
  have gl : (σ ++ [some (V.ref p)])[env.length]? = some (some (.ref p)) := by
    rw [← S.len]
    simp
  refine ⟨by simp [S.len], S1.same, fun i sl ov e1 e2 => ?_, fun i j q sl sl' ne e1 e2 m1 m2 e3 e4 => ?_, S1.anc, S1.iob, S1.ioh⟩
  · rcases ge i sl e1 with ⟨e, hi⟩ | ⟨rfl, rfl⟩
    · rw [gs i hi] at e2
      exact S1.slot i sl ov e e2
    · rw [gl] at e2
      cases e2
      exact .ow b h0 (by rw [upd_same]; exact c)
  · rcases ge i sl e1 with ⟨e, hi⟩ | ⟨rfl, rfl⟩
    · rw [gs i hi] at e3
      rcases ge j sl' e2 with ⟨e', hj⟩ | ⟨rfl, rfl⟩
      · rw [gs j hj] at e4
        exact S.inj i j q sl sl' ne e e' m1 m2 e3 e4
      · rw [gl] at e4
        cases e4
        exact old i sl e m1 e3
    · rw [gl] at e3
      cases e3
      rcases ge j sl' e2 with ⟨e', hj⟩ | ⟨rfl, rfl⟩
      · rw [gs j hj] at e4
        exact old j sl' e' m2 e4
      · exact ne rfl
/-- fewer slots -/
theorem SR.front {σ2 : L2.St} {env2 : Env} (S : SR K A B H (σ ++ σ2) (env ++ env2)) (hl : σ.length = env.length) : SR K A B H σ env := by
  have ge : ∀ i sl, env[i]? = some sl → (env ++ env2)[i]? = some sl := fun i sl e => by
    rw [List.getElem?_append_left (List.getElem?_eq_some_iff.mp e).1]
    exact e
  have gs : ∀ i ov, σ[i]? = some ov → (σ ++ σ2)[i]? = some ov := fun i ov e => by
    rw [List.getElem?_append_left (List.getElem?_eq_some_iff.mp e).1]
    exact e
  exact ⟨hl, S.same, fun i sl ov e1 e2 => S.slot i sl ov (ge _ _ e1) (gs _ _ e2), fun i j p sl sl' ne e1 e2 m1 m2 e3 e4 => S.inj i j p sl sl' ne (ge _ _ e1) (ge _ _ e2) m1 m2 (gs _ _ e3) (gs _ _ e4), S.anc, S.iob, S.ioh⟩
/-- a slot is set to frozen data, or forgotten -/
theorem SR.setIm (S : SR K A B H σ env) {i : Nat} {v : V} {d : D} (r : Rp K B d v) : SR K A B H (σ.set i (some v)) (env.set i (.im d)) := by
  refine ⟨by simp [S.len], S.same, fun j sl ov e1 e2 => ?_, fun j k p sl sl' ne e1 e2 m1 m2 e3 e4 => ?_, S.anc, S.iob, S.ioh⟩
  · by_cases hj : i = j
    · subst hj
      have h1 : i < (env.set i (.im d)).length := (List.getElem?_eq_some_iff.mp e1).1
      have h2 : i < env.length := by simpa using h1
      rw [List.getElem?_set_self h2] at e1
      rw [List.getElem?_set_self (by rw [S.len]; exact h2)] at e2
      cases e1
      cases e2
      exact .im r
    · rw [List.getElem?_set_ne hj] at e1 e2
      exact S.slot j sl ov e1 e2
  · have key : ∀ j sl, (env.set i (Sl.im d))[j]? = some sl → sl.mut = true → i ≠ j ∧ env[j]? = some sl := fun j sl e m => by
      by_cases hj : i = j
      · subst hj
        have h1 : i < (env.set i (.im d)).length := (List.getElem?_eq_some_iff.mp e).1
        rw [List.getElem?_set_self (by simpa using h1)] at e
        cases e
        cases m
      · rw [List.getElem?_set_ne hj] at e
        exact ⟨hj, e⟩
    obtain ⟨n1, f1⟩ := key j sl e1 m1
    obtain ⟨n2, f2⟩ := key k sl' e2 m2
    rw [List.getElem?_set_ne n1] at e3
    rw [List.getElem?_set_ne n2] at e4
    exact S.inj j k p sl sl' ne f1 f2 m1 m2 e3 e4
theorem SR.setEm (S : SR K A B H σ env) {i : Nat} {ov : Option V} : SR K A B H (σ.set i ov) (env.set i .em) := by
  refine ⟨by simp [S.len], S.same, fun j sl ov' e1 e2 => ?_, fun j k p sl sl' ne e1 e2 m1 m2 e3 e4 => ?_, S.anc, S.iob, S.ioh⟩
  · by_cases hj : i = j
    · subst hj
      have h1 : i < (env.set i .em).length := (List.getElem?_eq_some_iff.mp e1).1
      rw [List.getElem?_set_self (by simpa using h1)] at e1
      cases e1
      exact .em
    · rw [List.getElem?_set_ne hj] at e1 e2
      exact S.slot j sl ov' e1 e2
  · have key : ∀ j sl, (env.set i Sl.em)[j]? = some sl → sl.mut = true → i ≠ j ∧ env[j]? = some sl := fun j sl e m => by
      by_cases hj : i = j
      · subst hj
        have h1 : i < (env.set i .em).length := (List.getElem?_eq_some_iff.mp e).1
        rw [List.getElem?_set_self (by simpa using h1)] at e
        cases e
        cases m
      · rw [List.getElem?_set_ne hj] at e
        exact ⟨hj, e⟩
    obtain ⟨n1, f1⟩ := key j sl e1 m1
    obtain ⟨n2, f2⟩ := key k sl' e2 m2
    rw [List.getElem?_set_ne n1] at e3
    rw [List.getElem?_set_ne n2] at e4
    exact S.inj j k p sl sl' ne f1 f2 m1 m2 e3 e4
/-- the slots at two places of the list change places: only what stands matters -/
theorem SR.sub {σ' : L2.St} {env' : Env} (S : SR K A B H σ env) (hl : σ'.length = env'.length) (f : Nat → Nat) (hf : ∀ i j sl sl', env'[i]? = some sl → env'[j]? = some sl' → sl.mut = true → sl'.mut = true → f i = f j → i = j)
    (he : ∀ i sl, env'[i]? = some sl → sl ≠ .em → env[f i]? = some sl ∧ σ'[i]? = σ[f i]?) : SR K A B H σ' env' := by
  refine ⟨hl, S.same, fun i sl ov e1 e2 => ?_, fun i j p sl sl' ne e1 e2 m1 m2 e3 e4 => ?_, S.anc, S.iob, S.ioh⟩
  · cases sl with
    | em => exact .em
    | im d =>
      obtain ⟨h1, h2⟩ := he i _ e1 (by simp)
      exact S.slot (f i) _ ov h1 (by rw [← h2]; exact e2)
    | ow d =>
      obtain ⟨h1, h2⟩ := he i _ e1 (by simp)
      exact S.slot (f i) _ ov h1 (by rw [← h2]; exact e2)
    | io d =>
      obtain ⟨h1, h2⟩ := he i _ e1 (by simp)
      exact S.slot (f i) _ ov h1 (by rw [← h2]; exact e2)
  · have n1 : sl ≠ .em := fun z => by subst z; cases m1
    have n2 : sl' ≠ .em := fun z => by subst z; cases m2
    obtain ⟨h1, h2⟩ := he i _ e1 n1
    obtain ⟨h3, h4⟩ := he j _ e2 n2
    refine S.inj (f i) (f j) p sl sl' (fun z => ne (hf i j sl sl' e1 e2 m1 m2 z)) h1 h3 m1 m2 (by rw [← h2]; exact e3) (by rw [← h4]; exact e4)
/-- the container that a slot holds is written -/
theorem SR.write (S : SR K A B H σ env) {i : Nat} {p : Addr} {sl sl' : Sl} {o : HO} {d d' : D} (he : env[i]? = some sl) (hs : (sl = .ow d ∧ sl' = .ow d') ∨ (∃ j, sl = .io j d ∧ sl' = .io j d')) (hv : σ[i]? = some (some (.ref p))) (c : Cont K B d' (some o)) :
    SR K A B (upd H p o) σ (env.set i sl') := by
  have hi : i < env.length := (List.getElem?_eq_some_iff.mp he).1
  have m : sl.mut = true := by rcases hs with ⟨rfl, rfl⟩ | ⟨j0, rfl, rfl⟩ <;> rfl
  have bp : B p = none := by
    have s := S.slot i sl _ he hv
    rcases hs with ⟨rfl, rfl⟩ | ⟨j0, rfl, rfl⟩
    · cases s with
      | ow b _ _ => exact b
    · cases s with
      | io h _ => exact (S.iob p ⟨_, h⟩).1
  have old : ∀ (j : Nat) (sl2 : Sl), j ≠ i → env[j]? = some sl2 → sl2.mut = true → σ[j]? ≠ some (some (V.ref p)) := fun j sl2 ne e m2 z => S.inj j i p sl2 sl ne e he m2 m z hv
  have gi : ∀ j sl2, (env.set i sl')[j]? = some sl2 → (j = i ∧ sl2 = sl') ∨ (j ≠ i ∧ env[j]? = some sl2) := fun j sl2 e => by
    by_cases hj : i = j
    · subst hj
      rw [List.getElem?_set_self hi] at e
      cases e
      exact .inl ⟨rfl, rfl⟩
    · rw [List.getElem?_set_ne hj] at e
      exact .inr ⟨fun z => hj z.symm, e⟩
  refine ⟨by simp [S.len], fun a u e => ?_, fun j sl2 ov e1 e2 => ?_, fun j k q s1 s2 ne e1 e2 m1 m2 e3 e4 => ?_, fun a u e n => ?_, fun a n => ?_, S.ioh⟩
  · rw [upd_ne (ne_of_none e bp)]
    exact S.same a u e
  · rcases gi j sl2 e1 with ⟨rfl, rfl⟩ | ⟨ne, e⟩
    · rw [hv] at e2
      cases e2
      have s := S.slot j sl _ he hv
      rcases hs with ⟨rfl, rfl⟩ | ⟨j0, rfl, rfl⟩
      · cases s with
        | ow b h _ => exact .ow b h (by rw [upd_same]; exact c)
      · cases s with
        | io h _ => exact .io h (by rw [upd_same]; exact c)
    · refine (S.slot j sl2 ov e e2).grow (Same.refl _) (fun q d eo m2 _ => ?_) (fun _ _ _ z => z)
      exact upd_ne fun z => old j sl2 ne e m2 (by rw [e2, eo, z])
  · have mm : sl'.mut = true := by rcases hs with ⟨rfl, rfl⟩ | ⟨j0, rfl, rfl⟩ <;> rfl
    rcases gi j s1 e1 with ⟨rfl, rfl⟩ | ⟨n1, f1⟩
    · rcases gi k s2 e2 with ⟨rfl, rfl⟩ | ⟨n2, f2⟩
      · exact ne rfl
      · exact S.inj j k q sl s2 ne he f2 m m2 e3 e4
    · rcases gi k s2 e2 with ⟨rfl, rfl⟩ | ⟨n2, f2⟩
      · exact S.inj j k q s1 sl ne f1 he m1 m e3 e4
      · exact S.inj j k q s1 s2 ne f1 f2 m1 m2 e3 e4
  · have ne : a ≠ p := fun z => by
      subst z
      have s := S.slot i sl _ he hv
      rcases hs with ⟨rfl, rfl⟩ | ⟨j0, rfl, rfl⟩
      · cases s with
        | ow _ h _ =>
          rw [h] at e
          cases e
      · cases s with
        | io h _ => exact n ⟨_, h⟩
    obtain ⟨e1, e2⟩ := S.anc a u e n
    exact ⟨by rw [upd_ne ne]; exact e1, e2⟩
  · obtain ⟨b', u, e, nt⟩ := S.iob a n
    by_cases ha : a = p
    · subst ha
      exact ⟨b', o, upd_same, c.nt⟩
    · exact ⟨b', u, by rw [upd_ne ha]; exact e, nt⟩
/-- a slot's own container is frozen where it stands -/
theorem SR.freezeAt (S : SR K A B H σ env) {i : Nat} {p : Addr} {d : D} (he : env[i]? = some (.ow d)) (hv : σ[i]? = some (some (.ref p))) :
    ∃ o, H p = some o ∧ SR K A (upd B p o) H σ (env.set i (.im d)) ∧ Same B (upd B p o) ∧ Rp K (upd B p o) d (.ref p) := by
  have hi : i < env.length := (List.getElem?_eq_some_iff.mp he).1
  cases S.slot i _ _ he hv with
  | ow b h0 c =>
    obtain ⟨o, ho⟩ := c.some
    have hB : Same B (upd B p o) := fun a u e => by
      rw [upd_ne (ne_of_none e b)]
      exact e
    have S1 : SR K A B H σ (env.set i .em) := by
      have := S.setEm (i := i) (ov := some (.ref p))
      have e : σ.set i (some (V.ref p)) = σ := by
        apply List.ext_getElem?
        intro j
        by_cases hj : i = j
        · subst hj
          rw [List.getElem?_set_self (by rw [S.len]; exact hi), hv]
        · rw [List.getElem?_set_ne hj]
      rw [e] at this
      exact this
    have S2 : SR K A (upd B p o) H σ (env.set i .em) := by
      refine S1.freeze ho b h0 fun j sl e m z => ?_
      by_cases hj : i = j
      · subst hj
        rw [List.getElem?_set_self hi] at e
        cases e
        cases m
      · rw [List.getElem?_set_ne hj] at e
        exact S.inj j i p sl _ (fun z => hj z.symm) e he m rfl z hv
    have r : Rp K (upd B p o) d (.ref p) := by
      rw [ho] at c
      exact c.frozen hB upd_same
    refine ⟨o, ho, ?_, hB, r⟩
    have S3 := S2.setIm (i := i) r
    have e : σ.set i (some (V.ref p)) = σ := by
      apply List.ext_getElem?
      intro j
      by_cases hj : i = j
      · subst hj
        rw [List.getElem?_set_self (by rw [S.len]; exact hi), hv]
      · rw [List.getElem?_set_ne hj]
    rw [e, List.set_set] at S3
    exact S3
end
end PD
namespace PD
open PySem PySem.Spec PyProof.Rows L2

/-- what an expression gives: frozen data; a new list or dict that nobody else holds; the container that a slot holds -/
inductive Vl where
  | im (d : D) | fr (d : D) | bo (i : Nat)
abbrev M (α : Type) := Env → Option (α × Env)
def rt {α : Type} (a : α) : M α := fun e => some (a, e)
def bd {α β : Type} (m : M α) (f : α → M β) : M β := fun e => match m e with
  | some (a, e') => f a e'
  | none => none
def Vl.hold : Vl → Vl
  | .fr d => .im d
  | v => v
/-- a value's content now -/
def cnt (e : Env) : Vl → Option D
  | .im d => some d
  | .fr d => some d
  | .bo i => match e[i]? with
    | some (.im d) => some d
    | some (.ow d) => some d
    | some (.io _ d) => some d
    | _ => none
def cnts (e : Env) : List Vl → Option (List D)
  | [] => some []
  | v :: r => match cnt e v, cnts e r with
    | some d, some ds => some (d :: ds)
    | _, _ => none
/-- .. frozen for good -/
def frz : Vl → M D
  | .im d => rt d
  | .fr d => rt d
  | .bo i => fun e => match e[i]? with
    | some (.im d) => some (d, e)
    | some (.ow d) => some (d, e.set i (.im d))
    | _ => none
def frzs : List Vl → M (List D)
  | [] => rt []
  | v :: r => bd (frz v) fun d => bd (frzs r) fun ds => rt (d :: ds)

section
variable (K : PySem.W.Frag) (A : Anc)
/-- a value stands for what is known of it -/
def VR (B H : Hp) (σ τ : L2.St) (env pe : Env) : Vl → V → Prop
  | .im d, v => SR K A B H (σ ++ τ) (env ++ pe) ∧ Rp K B d v
  | .fr d, v => SR K A B H (σ ++ τ ++ [some v]) (env ++ pe ++ [.ow d])
  | .bo i, v => SR K A B H (σ ++ τ) (env ++ pe) ∧ σ[i]? = some (some v)
def Hv (B : Hp) (σ : L2.St) : Vl → V → Prop
  | .im d, v => Rp K B d v
  | .fr _, _ => False
  | .bo i, v => σ[i]? = some (some v)
def SEX (t : TE) (m : M Vl) : Prop := ∀ (σ τ : L2.St) (B H : Hp) (env pe env' : Env) (r : Vl) (Q : VK), SR K A B H (σ ++ τ) (env ++ pe) → σ.length = env.length → m env = some (r, env') →
  (∀ B' H' v, Same B B' → σ.length = env'.length → VR K A B' H' σ τ env' pe r v → Q v H') → t σ H Q
def SAX (t : TA) (m : M (List Vl)) : Prop := ∀ (σ τ : L2.St) (B H : Hp) (env pe env' : Env) (rs : List Vl) (Q : List V → Hp → Prop), SR K A B H (σ ++ τ) (env ++ pe) → σ.length = env.length → m env = some (rs, env') →
  (∀ B' H' vs, Same B B' → σ.length = env'.length → SR K A B' H' (σ ++ τ) (env' ++ pe) → Paired (Hv K B' σ) rs vs → Q vs H') → t σ H Q
def STX (t : TT) (m : M Bool) : Prop := ∀ (σ τ : L2.St) (B H : Hp) (env pe env' : Env) (b : Bool) (Q : Bool → Hp → Prop), SR K A B H (σ ++ τ) (env ++ pe) → σ.length = env.length → m env = some (b, env') →
  (∀ B' H', Same B B' → σ.length = env'.length → SR K A B' H' (σ ++ τ) (env' ++ pe) → Q b H') → t σ H Q
end

section
variable {K : PySem.W.Frag} {A : Anc} {B H : Hp} {σ τ : L2.St} {env pe : Env}
theorem list_set_self {α : Type} {l : List α} {i : Nat} {a : α} (h : l[i]? = some a) : l.set i a = l := by
  have hi := (List.getElem?_eq_some_iff.mp h).1
  apply List.ext_getElem?
  intro j
  by_cases hj : i = j
  · subst hj
    rw [List.getElem?_set_self hi, h]
  · rw [List.getElem?_set_ne hj]
/-- a pending value is frozen (unless a slot holds it) -/
theorem VR.held {r : Vl} {v : V} (h : VR K A B H σ τ env pe r v) : ∃ B', Same B B' ∧ SR K A B' H (σ ++ τ) (env ++ pe) ∧ Hv K B' σ r.hold v := by
  cases r with
  | im d => exact ⟨B, Same.refl _, h.1, h.2⟩
  | bo i => exact ⟨B, Same.refl _, h.1, h.2⟩
  | fr d =>
    have S : SR K A B H (σ ++ τ ++ [some v]) (env ++ pe ++ [.ow d]) := h
    have hl : (σ ++ τ).length = (env ++ pe).length := by
      have := S.len
      simp only [List.length_append, List.length_cons, List.length_nil] at this ⊢
      omega
    have e1 : (env ++ pe ++ [Sl.ow d])[(env ++ pe).length]? = some (.ow d) := by simp
    have e2 : (σ ++ τ ++ [some v])[(env ++ pe).length]? = some (some v) := by
      rw [← hl]
      simp
    cases S.slot _ _ _ e1 e2 with
    | ow b h0 c =>
      obtain ⟨o, ho, S1, hB, rr⟩ := S.freezeAt e1 e2
      refine ⟨_, hB, ?_, rr⟩
      have e3 : (env ++ pe ++ [Sl.ow d]).set (env ++ pe).length (.im d) = env ++ pe ++ [.im d] := by simp
      rw [e3] at S1
      exact S1.front hl
theorem SR.lens (S : SR K A B H (σ ++ τ) (env ++ pe)) (hl : σ.length = env.length) : τ.length = pe.length := by
  have := S.len
  simp only [List.length_append] at this
  omega
theorem SR.at (S : SR K A B H (σ ++ τ) (env ++ pe)) (hl : σ.length = env.length) {i : Nat} {sl : Sl} {ov : Option V} (e1 : env[i]? = some sl) (e2 : σ[i]? = some ov) : SlOk K A B H sl ov := by
  refine S.slot i sl ov ?_ ?_
  · rw [List.getElem?_append_left (List.getElem?_eq_some_iff.mp e1).1]
    exact e1
  · rw [List.getElem?_append_left (List.getElem?_eq_some_iff.mp e2).1]
    exact e2
/-- v stands for d: frozen, or the content of a container that stands in the heap -/
inductive Rr (K : PySem.W.Frag) (B H : Hp) : D → V → Prop
  | fz {d : D} {v : V} : Rp K B d v → Rr K B H d v
  | ct {d : D} {p : Addr} : Cont K B d (H p) → Rr K B H d (.ref p)
theorem Rr.lst {ds : List D} {v : V} (s : Same B H) (h : Rr K B H (.lst ds) v) : ∃ a xs, v = .ref a ∧ H a = some (.lst xs) ∧ Rps K B ds xs := by
  cases h with
  | fz r =>
    cases r with
    | lst h r => exact ⟨_, _, rfl, s _ _ h, r⟩
  | ct c =>
    rename_i p
    generalize e : H p = o at c
    cases c with
    | lst r => exact ⟨_, _, rfl, e, r⟩
theorem Rr.ty {n : String} {v : V} (h : Rr K B H (.ty n) v) : v = .ty n := by
  cases h with
  | fz r => cases r; rfl
  | ct c =>
    rename_i p
    generalize e : H p = o at c
    cases c
theorem Rr.sc {ns : List Int} {v : V} (s : Same B H) (h : Rr K B H (.sc ns) v) : ∃ a, v = .ref a ∧ SqL K H a (ns.map V.int) := by
  cases h with
  | fz r =>
    cases r with
    | sc h => exact ⟨_, rfl, sameL s h⟩
  | ct c =>
    rename_i p
    generalize e : H p = o at c
    cases c
theorem Rr.tup {ds : List D} {v : V} (s : Same B H) (h : Rr K B H (.tup ds) v) : ∃ a xs, v = .ref a ∧ H a = some (.tup xs) ∧ TuT K B a xs ∧ Rps K B ds xs := by
  cases h with
  | fz r =>
    cases r with
    | tup h r => exact ⟨_, _, rfl, h.same s, h, r⟩
  | ct c =>
    rename_i p
    generalize e : H p = o at c
    cases c
theorem Rr.tp {ds : List D} {v : V} (s : Same B H) (h : Rr K B H (.tp ds) v) : ∃ a o xs, v = .ref a ∧ H a = some (.frz o (.tup xs)) ∧ o.dict = none ∧ Rps K B ds xs := by
  cases h with
  | fz r =>
    cases r with
    | tp h d r => exact ⟨_, _, _, rfl, s _ _ h, d, r⟩
  | ct c =>
    rename_i p
    generalize e : H p = o at c
    cases c
theorem Rr.int {i : Int} {v : V} (h : Rr K B H (.int i) v) : v = .int i := by
  cases h with
  | fz r => cases r; rfl
  | ct c =>
    rename_i p
    generalize e : H p = o at c
    cases c
theorem Rr.bl {b : Bool} {v : V} (h : Rr K B H (.bl b) v) : v = .bl b := by
  cases h with
  | fz r => cases r; rfl
  | ct c =>
    rename_i p
    generalize e : H p = o at c
    cases c
theorem Rr.non {v : V} (h : Rr K B H .non v) : v = .non := by
  cases h with
  | fz r => cases r; rfl
  | ct c =>
    rename_i p
    generalize e : H p = o at c
    cases c
theorem Rr.str {x : Str} {v : V} (h : Rr K B H (.str x) v) : v = .str x ∧ PyData.strOk x = true := by
  cases h with
  | fz r =>
    cases r with
    | str _ h => exact ⟨rfl, h⟩
  | ct c =>
    rename_i p
    generalize e : H p = o at c
    cases c
theorem Rr.dk {es : List (Key × D)} {v : V} (s : Same B H) (h : Rr K B H (.dk es) v) : ∃ a kvs, v = .ref a ∧ H a = some (.dK kvs) ∧ es.map (·.1) = kvs.map (·.1) ∧ Rps K B (es.map (·.2)) (kvs.map (·.2)) := by
  cases h with
  | fz r =>
    cases r with
    | dk h e r => exact ⟨_, _, rfl, s _ _ h, e, r⟩
  | ct c =>
    rename_i p
    generalize e : H p = o at c
    cases c with
    | dk e1 r => exact ⟨_, _, rfl, e, e1, r⟩
theorem Rr.dt {es : List (List Key × D)} {v : V} (s : Same B H) (h : Rr K B H (.dt es) v) : ∃ a kvs, v = .ref a ∧ H a = some (.dT kvs) ∧ es.map (·.1) = kvs.map (·.1) ∧ Rps K B (es.map (·.2)) (kvs.map (·.2)) := by
  cases h with
  | fz r =>
    cases r with
    | dt h e r => exact ⟨_, _, rfl, s _ _ h, e, r⟩
  | ct c =>
    rename_i p
    generalize e : H p = o at c
    cases c with
    | dt e1 r => exact ⟨_, _, rfl, e, e1, r⟩
theorem Hv.rr {r : Vl} {v : V} {d : D} (S : SR K A B H (σ ++ τ) (env ++ pe)) (hl : σ.length = env.length) (h : Hv K B σ r v) (c : cnt env r = some d) : Rr K B H d v := by
  cases r with
  | im d' =>
    cases c
    exact .fz h
  | fr d' => exact h.elim
  | bo i =>
    have h : σ[i]? = some (some v) := h
    unfold cnt at c
    dsimp only at c
    split at c
    · rename_i d' e
      cases c
      cases S.at hl e h with
      | im r => exact .fz r
    · rename_i d' e
      cases c
      cases S.at hl e h with
      | ow b h0 cc => exact .ct cc
    · rename_i d' e
      cases c
      cases S.at hl e h with
      | io h0 cc => exact .ct cc
    · cases c
theorem Hv.rrs (S : SR K A B H (σ ++ τ) (env ++ pe)) (hl : σ.length = env.length) : ∀ {rs : List Vl} {vs : List V} {ds : List D}, Paired (Hv K B σ) rs vs → cnts env rs = some ds → Paired (Rr K B H) ds vs
  | _, _, ds, .nil, c => by
    cases c
    exact .nil
  | r :: rs, v :: vs, ds, .cons h t, c => by
    unfold cnts at c
    split at c
    · rename_i d ds' e1 e2
      cases c
      exact .cons (Hv.rr S hl h e1) (Hv.rrs S hl t e2)
    · cases c
theorem Hv.mono {B' : Hp} (s : Same B B') {r : Vl} {v : V} (h : Hv K B σ r v) : Hv K B' σ r v := by
  cases r with
  | im d => exact Rp.mono s h
  | fr d => exact h
  | bo i => exact h
end

/-! ### argument lists -/
def cN : M (List Vl) := rt []
def cA (m : M Vl) (ms : M (List Vl)) : M (List Vl) := bd m fun r => bd ms fun rs => rt (r.hold :: rs)
section
variable {K : PySem.W.Frag} {A : Anc}
theorem sa_nil : SAX K A tNil cN := fun σ τ B H env pe env' rs Q S hl e q => by
  cases e
  exact q B H [] (Same.refl _) hl S .nil
theorem sa_cons {t : TE} {ts : TA} {m : M Vl} {ms : M (List Vl)} (h : SEX K A t m) (hs : SAX K A ts ms) : SAX K A (tCons t ts) (cA m ms) := fun σ τ B H env pe env' rs Q S hl e q => by
  unfold cA bd at e
  split at e
  · rename_i r e1 he
    try dsimp only at e
    split at e
    · rename_i rs' e2 hes
      try dsimp only at e
      cases e
      refine h σ τ B H env pe e1 r _ S hl he fun B1 H1 v s1 hl1 hv => ?_
      obtain ⟨B2, s2, S2, hh⟩ := hv.held
      refine hs σ τ B2 H1 e1 pe _ rs' _ S2 hl1 hes fun B3 H3 vs s3 hl3 S3 hr => ?_
      exact q B3 H3 (v :: vs) ((s1.trans s2).trans s3) hl3 S3 (.cons (hh.mono s3) hr)
    · cases e
  · cases e
end

/-! ### a step by values -/
/-- a rule by values does f -/
def VRp (K : PySem.W.Frag) (A : Anc) (B H : Hp) (vs : L2.St) (env : Env) : Vl → V → Prop
  | .im d, v => SR K A B H vs env ∧ Rp K B d v
  | .fr d, v => SR K A B H (vs ++ [some v]) (env ++ [.ow d])
  | .bo _, _ => False
def PrS (K : PySem.W.Frag) (r : List V → Hp → VK → Prop) (f : List D → Option Vl) : Prop :=
  ∀ (A : Anc) (B H : Hp) (vs : L2.St) (env : Env) (xs : List V) (ds : List D) (res : Vl) (Q : VK), SR K A B H vs env → Paired (Rr K B H) ds xs → f ds = some res → (∀ B' H' v, Same B B' → VRp K A B' H' vs env res v → Q v H') → r xs H Q
def eP (f : List D → Option Vl) (ms : M (List Vl)) : M Vl := bd ms fun rs e => match cnts e rs with
  | some ds => match f ds with
    | some (.im d) => some (.im d, e)
    | some (.fr d) => some (.fr d, e)
    | _ => none
  | none => none
section
variable {K : PySem.W.Frag} {A : Anc}
theorem sx_prim {ta : TA} {ms : M (List Vl)} {r : List V → Hp → VK → Prop} {f : List D → Option Vl} (hp : PrS K r f) (ha : SAX K A ta ms) : SEX K A (tCB r ta) (eP f ms) := fun σ τ B H env pe env' res Q S hl e q => by
  unfold eP bd at e
  split at e
  · rename_i rs e1 he
    try dsimp only at e
    split at e
    · rename_i ds hc
      refine ha σ τ B H env pe e1 rs _ S hl he fun B1 H1 vs s1 hl1 S1 hr => ?_
      have rr := Hv.rrs S1 hl1 hr hc
      split at e
      · rename_i d hf
        cases e
        exact hp A B1 H1 (σ ++ τ) (env' ++ pe) vs ds _ Q S1 rr hf fun B2 H2 v s2 h2 => q B2 H2 v (s1.trans s2) hl1 h2
      · rename_i d hf
        cases e
        exact hp A B1 H1 (σ ++ τ) (env' ++ pe) vs ds _ Q S1 rr hf fun B2 H2 v s2 h2 => q B2 H2 v (s1.trans s2) hl1 h2
      · cases e
    · cases e
  · cases e
def on2 (r : R2) : List V → Hp → VK → Prop := fun xs H Q => match xs with
  | [x, y] => r x y H Q
  | _ => False
def on1 (r : V → Hp → VK → Prop) : List V → Hp → VK → Prop := fun xs H Q => match xs with
  | [x] => r x H Q
  | _ => False
theorem sx_op {ta tb : TE} {ma mb : M Vl} {r : R2} {f : List D → Option Vl} (hp : PrS K (on2 r) f) (ha : SEX K A ta ma) (hb : SEX K A tb mb) : SEX K A (tOp r ta tb) (eP f (cA ma (cA mb cN))) :=
  sx_prim hp (sa_cons ha (sa_cons hb sa_nil))
theorem sx_un {ta : TE} {ma : M Vl} {r : V → Hp → VK → Prop} {f : List D → Option Vl} (hp : PrS K (on1 r) f) (ha : SEX K A ta ma) : SEX K A (tUn r ta) (eP f (cA ma cN)) :=
  sx_prim hp (sa_cons ha sa_nil)

/-! ### names, constants, tests -/
def eV (i : Nat) : M Vl := fun e => match e[i]? with
  | some (.im d) => some (.im d, e)
  | some (.ow _) => some (.bo i, e)
  | some (.io _ _) => some (.bo i, e)
  | _ => none
theorem sx_var {i : Nat} : SEX K A (tVar i) (eV i) := fun σ τ B H env pe env' r Q S hl e q => by
  unfold eV at e
  split at e
  · rename_i d he
    try dsimp only at e
    cases e
    have hi : i < σ.length := by
      rw [hl]
      exact (List.getElem?_eq_some_iff.mp he).1
    have hσ := List.getElem?_eq_getElem hi
    cases h : σ[i] with
    | none =>
      rw [h] at hσ
      cases S.at hl he hσ
    | some v =>
      rw [h] at hσ
      cases S.at hl he hσ with
      | im rr => exact ⟨v, hσ, q B H v (Same.refl _) hl ⟨S, rr⟩⟩
  · rename_i d he
    try dsimp only at e
    cases e
    have hi : i < σ.length := by
      rw [hl]
      exact (List.getElem?_eq_some_iff.mp he).1
    have hσ := List.getElem?_eq_getElem hi
    cases h : σ[i] with
    | none =>
      rw [h] at hσ
      cases S.at hl he hσ
    | some v =>
      rw [h] at hσ
      exact ⟨v, hσ, q B H v (Same.refl _) hl ⟨S, hσ⟩⟩
  · rename_i d he
    try dsimp only at e
    cases e
    have hi : i < σ.length := by
      rw [hl]
      exact (List.getElem?_eq_some_iff.mp he).1
    have hσ := List.getElem?_eq_getElem hi
    cases h : σ[i] with
    | none =>
      rw [h] at hσ
      cases S.at hl he hσ
    | some v =>
      rw [h] at hσ
      exact ⟨v, hσ, q B H v (Same.refl _) hl ⟨S, hσ⟩⟩
  · cases e
/-- a constant -/
def eC (d : D) : M Vl := rt (.im d)
theorem sx_con {v : V} {d : D} (h : ∀ B, Rp K B d v) : SEX K A (tC v) (eC d) := fun σ τ B H env pe env' r Q S hl e q => by
  cases e
  exact q B H v (Same.refl _) hl ⟨S, h B⟩
/-- a value that is a truth, as a test -/
def mB (m : M Vl) : M Bool := bd m fun r e => match r with
  | .im (.bl b) => some (b, e)
  | _ => none
theorem st_val {t : TE} {m : M Vl} (h : SEX K A t m) : STX K A (tB t) (mB m) := fun σ τ B H env pe env' b Q S hl e q => by
  unfold mB bd at e
  split at e
  · rename_i r e1 he
    try dsimp only at e
    split at e
    · rename_i b'
      cases e
      refine h σ τ B H env pe env' _ _ S hl he fun B1 H1 v s1 hl1 hv => ?_
      obtain ⟨S1, rr⟩ := hv
      cases rr
      exact ⟨b, rfl, q B1 H1 s1 hl1 S1⟩
    · cases e
  · cases e
def mNot (m : M Bool) : M Bool := bd m fun b => rt (!b)
theorem st_not {t : TT} {m : M Bool} (h : STX K A t m) : STX K A (tNot t) (mNot m) := fun σ τ B H env pe env' b Q S hl e q => by
  unfold mNot bd at e
  split at e
  · rename_i b' e1 he
    try dsimp only at e
    cases e
    exact h σ τ B H env pe env' _ _ S hl he q
  · cases e
def mAnd (m n : M Bool) : M Bool := bd m fun b => if b = true then n else rt false
def mOr (m n : M Bool) : M Bool := bd m fun b => if b = true then rt true else n
theorem st_and {t u : TT} {m n : M Bool} (h : STX K A t m) (h2 : STX K A u n) : STX K A (tAnd t u) (mAnd m n) := fun σ τ B H env pe env' b Q S hl e q => by
  unfold mAnd bd at e
  split at e
  · rename_i b' e1 he
    try dsimp only at e
    refine h σ τ B H env pe e1 b' _ S hl he fun B1 H1 s1 hl1 S1 => ?_
    cases b' with
    | true =>
      rw [if_pos rfl] at e ⊢
      exact h2 σ τ B1 H1 e1 pe env' b Q S1 hl1 e fun B2 H2 s2 => q B2 H2 (s1.trans s2)
    | false =>
      rw [if_neg Bool.false_ne_true] at e ⊢
      cases e
      exact q B1 H1 s1 hl1 S1
  · cases e
theorem st_or {t u : TT} {m n : M Bool} (h : STX K A t m) (h2 : STX K A u n) : STX K A (tOr t u) (mOr m n) := fun σ τ B H env pe env' b Q S hl e q => by
  unfold mOr bd at e
  split at e
  · rename_i b' e1 he
    try dsimp only at e
    refine h σ τ B H env pe e1 b' _ S hl he fun B1 H1 s1 hl1 S1 => ?_
    cases b' with
    | false =>
      rw [if_neg Bool.false_ne_true] at e ⊢
      exact h2 σ τ B1 H1 e1 pe env' b Q S1 hl1 e fun B2 H2 s2 => q B2 H2 (s1.trans s2)
    | true =>
      rw [if_pos rfl] at e ⊢
      cases e
      exact q B1 H1 s1 hl1 S1
  · cases e
/-- not, and, or as values of truths -/
def eNot (m : M Vl) : M Vl := bd (mB m) fun b => rt (.im (.bl (!b)))
theorem sx_not {t : TE} {m : M Vl} (h : SEX K A t m) : SEX K A (tNotV t) (eNot m) := fun σ τ B H env pe env' r Q S hl e q => by
  unfold eNot bd at e
  split at e
  · rename_i b e1 he
    try dsimp only at e
    cases e
    exact st_val h σ τ B H env pe env' b (fun c H' => Q (.bl (!c)) H') S hl he fun B1 H1 s1 hl1 S1 => q B1 H1 _ s1 hl1 ⟨S1, .bl _⟩
  · cases e
def eAnd (m n : M Vl) : M Vl := bd (mB m) fun b => if b = true then n else rt (.im (.bl false))
def eOr (m n : M Vl) : M Vl := bd (mB m) fun b => if b = true then rt (.im (.bl true)) else n
theorem sx_and {t u : TE} {m n : M Vl} (h : SEX K A t m) (h2 : SEX K A u n) : SEX K A (tAndV t u) (eAnd m n) := fun σ τ B H env pe env' r Q S hl e q => by
  unfold eAnd bd at e
  split at e
  · rename_i b e1 he
    try dsimp only at e
    refine st_val h σ τ B H env pe e1 b (fun c H' => if c = true then u σ H' Q else Q (.bl false) H') S hl he fun B1 H1 s1 hl1 S1 => ?_
    cases b with
    | true =>
      rw [if_pos rfl] at e ⊢
      exact h2 σ τ B1 H1 e1 pe env' r Q S1 hl1 e fun B2 H2 v s2 => q B2 H2 v (s1.trans s2)
    | false =>
      rw [if_neg Bool.false_ne_true] at e ⊢
      cases e
      exact q B1 H1 _ s1 hl1 ⟨S1, .bl _⟩
  · cases e
theorem sx_or {t u : TE} {m n : M Vl} (h : SEX K A t m) (h2 : SEX K A u n) : SEX K A (tOrV t u) (eOr m n) := fun σ τ B H env pe env' r Q S hl e q => by
  unfold eOr bd at e
  split at e
  · rename_i b e1 he
    try dsimp only at e
    refine st_val h σ τ B H env pe e1 b (fun c H' => if c = true then Q (.bl true) H' else u σ H' Q) S hl he fun B1 H1 s1 hl1 S1 => ?_
    cases b with
    | false =>
      rw [if_neg Bool.false_ne_true] at e ⊢
      exact h2 σ τ B1 H1 e1 pe env' r Q S1 hl1 e fun B2 H2 v s2 => q B2 H2 v (s1.trans s2)
    | true =>
      rw [if_pos rfl] at e ⊢
      cases e
      exact q B1 H1 _ s1 hl1 ⟨S1, .bl _⟩
  · cases e
def eIf (c : M Bool) (m n : M Vl) : M Vl := bd c fun b => if b = true then m else n
theorem sx_if {tc : TT} {t u : TE} {c : M Bool} {m n : M Vl} (hc : STX K A tc c) (h : SEX K A t m) (h2 : SEX K A u n) : SEX K A (tIf tc t u) (eIf c m n) := fun σ τ B H env pe env' r Q S hl e q => by
  unfold eIf bd at e
  split at e
  · rename_i b e1 he
    try dsimp only at e
    refine hc σ τ B H env pe e1 b _ S hl he fun B1 H1 s1 hl1 S1 => ?_
    cases b with
    | true =>
      rw [if_pos rfl] at e ⊢
      exact h σ τ B1 H1 e1 pe env' r Q S1 hl1 e fun B2 H2 v s2 => q B2 H2 v (s1.trans s2)
    | false =>
      rw [if_neg Bool.false_ne_true] at e ⊢
      exact h2 σ τ B1 H1 e1 pe env' r Q S1 hl1 e fun B2 H2 v s2 => q B2 H2 v (s1.trans s2)
  · cases e

/-! ### tuples and lists that are written -/
/-- held values are frozen for good -/
theorem frz_ok {B H : Hp} {σ τ : L2.St} {env pe env' : Env} {r : Vl} {v : V} {d : D} (S : SR K A B H (σ ++ τ) (env ++ pe)) (hl : σ.length = env.length) (h : Hv K B σ r v) (e : frz r env = some (d, env')) :
    ∃ B', Same B B' ∧ SR K A B' H (σ ++ τ) (env' ++ pe) ∧ σ.length = env'.length ∧ Rp K B' d v := by
  cases r with
  | im d' =>
    cases e
    exact ⟨B, Same.refl _, S, hl, h⟩
  | fr d' => exact h.elim
  | bo i =>
    have h : σ[i]? = some (some v) := h
    unfold frz at e
    dsimp only at e
    split at e
    · rename_i d' he
      try dsimp only at e
      cases e
      cases S.at hl he h with
      | im rr => exact ⟨B, Same.refl _, S, hl, rr⟩
    · rename_i d' he
      try dsimp only at e
      cases e
      have hi := (List.getElem?_eq_some_iff.mp he).1
      have hj := (List.getElem?_eq_some_iff.mp h).1
      cases S.at hl he h with
      | ow b h0 c =>
        obtain ⟨o, ho, S1, hB, rr⟩ := S.freezeAt (i := i) (by rw [List.getElem?_append_left hi]; exact he) (by rw [List.getElem?_append_left hj]; exact h)
        rw [List.set_append_left _ _ hi] at S1
        exact ⟨_, hB, S1, by simpa using hl, rr⟩
    · cases e
theorem frzs_ok {σ τ : L2.St} {pe : Env} : ∀ {rs : List Vl} {vs : List V} {B H : Hp} {env env' : Env} {ds : List D}, SR K A B H (σ ++ τ) (env ++ pe) → σ.length = env.length → Paired (Hv K B σ) rs vs → frzs rs env = some (ds, env') →
    ∃ B', Same B B' ∧ SR K A B' H (σ ++ τ) (env' ++ pe) ∧ σ.length = env'.length ∧ Rps K B' ds vs
  | _, _, B, H, env, env', ds, S, hl, .nil, e => by
    cases e
    exact ⟨B, Same.refl _, S, hl, .nil⟩
  | r :: rs, v :: vs, B, H, env, env', ds, S, hl, .cons h t, e => by
    unfold frzs bd at e
    split at e
    · rename_i d e1 he
      try dsimp only at e
      split at e
      · rename_i ds' e2 hes
        try dsimp only at e
        cases e
        obtain ⟨B1, s1, S1, hl1, r1⟩ := frz_ok S hl h he
        obtain ⟨B2, s2, S2, hl2, r2⟩ := frzs_ok S1 hl1 (Paired.mapP t fun _ _ z => z.mono s1) hes
        exact ⟨B2, s1.trans s2, S2, hl2, .cons (r1.mono s2) r2⟩
      · cases e
    · cases e
def small (n : Nat) : Bool := decide (n ≤ sizeLine)
def eTup (ms : M (List Vl)) : M Vl := bd ms fun rs => bd (frzs rs) fun ds => if small ds.length = true then rt (.im (.tup ds)) else fun _ => none
def eLst (ms : M (List Vl)) : M Vl := bd ms fun rs => bd (frzs rs) fun ds => if small ds.length = true then rt (.fr (.lst ds)) else fun _ => none
theorem sx_tup {ta : TA} {ms : M (List Vl)} (ha : SAX K A ta ms) : SEX K A (tTup ta) (eTup ms) := fun σ τ B H env pe env' r Q S hl e q => by
  unfold eTup bd at e
  split at e
  · rename_i rs e1 he
    try dsimp only at e
    split at e
    · rename_i ds e2 hes
      try dsimp only at e
      split at e
      · rename_i hsm
        cases e
        refine ha σ τ B H env pe e1 rs _ S hl he fun B1 H1 vs s1 hl1 S1 hr => ?_
        obtain ⟨B2, s2, S2, hl2, r2⟩ := frzs_ok S1 hl1 hr hes
        refine ⟨by rw [← r2.length]; exact of_decide_eq_true hsm, fun p hp => ?_⟩
        obtain ⟨S3, s3⟩ := S2.laidF (o := .tup vs) hp
        exact q _ _ _ ((s1.trans s2).trans s3) hl2 ⟨S3, .tup upd_same (r2.mono s3)⟩
      · cases e
    · cases e
  · cases e
theorem sx_lst {ta : TA} {ms : M (List Vl)} (ha : SAX K A ta ms) : SEX K A (tLst ta) (eLst ms) := fun σ τ B H env pe env' r Q S hl e q => by
  unfold eLst bd at e
  split at e
  · rename_i rs e1 he
    try dsimp only at e
    split at e
    · rename_i ds e2 hes
      try dsimp only at e
      split at e
      · rename_i hsm
        cases e
        refine ha σ τ B H env pe e1 rs _ S hl he fun B1 H1 vs s1 hl1 S1 hr => ?_
        obtain ⟨B2, s2, S2, hl2, r2⟩ := frzs_ok S1 hl1 hr hes
        refine ⟨by rw [← r2.length]; exact of_decide_eq_true hsm, fun p hp => ?_⟩
        exact q B2 _ _ (s1.trans s2) hl2 (S2.push hp (.lst r2))
      · cases e
    · cases e
  · cases e
end
end PD
namespace PD
open PySem PySem.Spec PyProof.Rows L2

theorem bd_inv {α β : Type} {m : M α} {f : α → M β} {e e' : Env} {b : β} (h : bd m f e = some (b, e')) : ∃ a e1, m e = some (a, e1) ∧ f a e1 = some (b, e') := by
  unfold bd at h
  split at h
  · rename_i a e1 he
    exact ⟨a, e1, he, h⟩
  · cases h

/-! ### statements -/
inductive Fl where
  | nx | bk | ct | rt (v : Vl)
abbrev SM := Env → Option (Fl × Env)
section
variable (K : PySem.W.Frag) (A : Anc)
def FP (B : Hp) (E : Ends) (env' : Env) : Fl → Prop
  | .nx => ∀ σ' B' H', Same B B' → SR K A B' H' σ' env' → E.nx σ' H'
  | .bk => ∀ σ' B' H', Same B B' → SR K A B' H' σ' env' → E.bk σ' H'
  | .ct => ∀ σ' B' H', Same B B' → SR K A B' H' σ' env' → E.ct σ' H'
  | .rt r => ∀ σ' B' H' v, Same B B' → σ'.length = env'.length → VR K A B' H' σ' [] env' [] r v → E.rt v H'
def SSX (t : TS) (m : SM) : Prop := ∀ (σ : L2.St) (B H : Hp) (env env' : Env) (fl : Fl) (E : Ends), SR K A B H σ env → m env = some (fl, env') → FP K A B E env' fl → t E σ H
/-- a target: ts the slots that it stores -/
def SGX (ts : List Nat) (t : TG) (m : Vl → M Unit) : Prop := ∀ (σ τ : L2.St) (B H : Hp) (env pe env' : Env) (r : Vl) (v : V) (Q : L2.St → Hp → Prop), VR K A B H σ τ env pe r v → σ.length = env.length → m r env = some ((), env') →
  (∀ σ' B' H', Same B B' → σ'.length = env'.length → (∀ vs : List Nat, (∀ i ∈ ts, i ∈ vs) → wipe σ' vs = wipe σ vs) → SR K A B' H' (σ' ++ τ) (env' ++ pe) → Q σ' H') → t v σ H Q
def SGsX (ts : List Nat) (t : TGs) (m : List D → M Unit) : Prop := ∀ (σ τ : L2.St) (B H : Hp) (env pe env' : Env) (ds : List D) (vs : List V) (Q : L2.St → Hp → Prop), SR K A B H (σ ++ τ) (env ++ pe) → Rps K B ds vs → σ.length = env.length → m ds env = some ((), env') →
  (∀ σ' B' H', Same B B' → σ'.length = env'.length → (∀ us : List Nat, (∀ i ∈ ts, i ∈ us) → wipe σ' us = wipe σ us) → SR K A B' H' (σ' ++ τ) (env' ++ pe) → Q σ' H') → t vs σ H Q
/-- what a loop walks gives these items, as long as the frozen part stands -/
structure WD (J : It) (B0 : Hp) (items : List D) : Prop where
  goes : ∀ i H B, i < items.length → Same B0 B → Same B H → J.go i H
  stops : ∀ H B, Same B0 B → Same B H → J.stop items.length H
  yields : ∀ i H B x H', i < items.length → Same B0 B → Same B H → J.yld i H x H' → ∃ d, items[i]? = some d ∧
    ((H' = H ∧ Rp K B d x) ∨ ∃ T xs ds, x = .ref T ∧ H T = none ∧ H' = upd H T (.tup xs) ∧ d = .tup ds ∧ Rps K B ds xs)
def SIX (t : TI) (m : M (List D)) : Prop := ∀ (σ τ : L2.St) (B H : Hp) (env pe env' : Env) (ds : List D) (R : It → Hp → Prop), SR K A B H (σ ++ τ) (env ++ pe) → σ.length = env.length → m env = some (ds, env') →
  (∀ B' H' J, Same B B' → σ.length = env'.length → SR K A B' H' (σ ++ τ) (env' ++ pe) → WD K J B' ds → R J H') → t σ H R
end
section
variable {K : PySem.W.Frag} {A : Anc} {B H : Hp} {σ τ : L2.St} {env pe : Env}

theorem SR.nil_app (S : SR K A B H σ env) : SR K A B H (σ ++ []) (env ++ []) := by
  rw [List.append_nil, List.append_nil]
  exact S
theorem SR.app_nil (S : SR K A B H (σ ++ []) (env ++ [])) : SR K A B H σ env := by
  rw [List.append_nil, List.append_nil] at S
  exact S
theorem FP.mono {B2 : Hp} {E : Ends} {env' : Env} {fl : Fl} (s : Same B B2) (h : FP K A B E env' fl) : FP K A B2 E env' fl := by
  cases fl with
  | nx => exact fun σ' B' H' s' => h σ' B' H' (s.trans s')
  | bk => exact fun σ' B' H' s' => h σ' B' H' (s.trans s')
  | ct => exact fun σ' B' H' s' => h σ' B' H' (s.trans s')
  | rt r => exact fun σ' B' H' v s' => h σ' B' H' v (s.trans s')

def sNil : SM := fun e => some (.nx, e)
def sSeq (m n : SM) : SM := fun e => match m e with
  | some (.nx, e') => n e'
  | some (fl, e') => some (fl, e')
  | none => none
theorem ss_nil : SSX K A tNext sNil := fun σ B H env env' fl E S e q => by
  cases e
  exact q σ B H (Same.refl _) S
theorem ss_seq {t u : TS} {m n : SM} (h : SSX K A t m) (h2 : SSX K A u n) : SSX K A (tSeq t u) (sSeq m n) := fun σ B H env env' fl E S e q => by
  unfold sSeq at e
  split at e
  · rename_i e1 he
    exact h σ B H env e1 .nx _ S he fun σ1 B1 H1 s1 S1 => h2 σ1 B1 H1 e1 env' fl E S1 e (q.mono s1)
  · rename_i f e1 hn he
    cases e
    refine h σ B H env env' fl _ S he ?_
    cases fl with
    | nx => exact (hn rfl).elim
    | bk => exact q
    | ct => exact q
    | rt r => exact q
  · cases e
def sPass : SM := fun e => some (.nx, e)
def sBrk : SM := fun e => some (.bk, e)
def sCnt : SM := fun e => some (.ct, e)
theorem ss_pass : SSX K A tNext sPass := ss_nil
theorem ss_brk : SSX K A tBreak sBrk := fun σ B H env env' fl E S e q => by
  cases e
  exact q σ B H (Same.refl _) S
theorem ss_cnt : SSX K A tCont sCnt := fun σ B H env env' fl E S e q => by
  cases e
  exact q σ B H (Same.refl _) S
/-- a value is dropped -/
def sExp (m : M Vl) : SM := fun e => match m e with
  | some (_, e') => some (.nx, e')
  | none => none
theorem VR.drop {r : Vl} {v : V} (h : VR K A B H σ τ env pe r v) : SR K A B H (σ ++ τ) (env ++ pe) := by
  cases r with
  | im d => exact h.1
  | bo i => exact h.1
  | fr d =>
    have S : SR K A B H (σ ++ τ ++ [some v]) (env ++ pe ++ [.ow d]) := h
    refine S.front ?_
    have := S.len
    simp only [List.length_append, List.length_cons, List.length_nil] at this ⊢
    omega
theorem ss_exp {t : TE} {m : M Vl} (h : SEX K A t m) : SSX K A (tDrop t) (sExp m) := fun σ B H env env' fl E S e q => by
  unfold sExp at e
  split at e
  · rename_i r e1 he
    cases e
    exact h σ [] B H env [] _ r _ S.nil_app S.len he fun B1 H1 v s1 hl1 hv => q σ B1 H1 s1 hv.drop.app_nil
  · cases e
def sRet (m : M Vl) : SM := fun e => match m e with
  | some (r, e') => some (.rt r, e')
  | none => none
theorem ss_ret {t : TE} {m : M Vl} (h : SEX K A t m) : SSX K A (tRet t) (sRet m) := fun σ B H env env' fl E S e q => by
  unfold sRet at e
  split at e
  · rename_i r e1 he
    cases e
    exact h σ [] B H env [] _ r _ S.nil_app S.len he fun B1 H1 v s1 hl1 hv => q σ B1 H1 v s1 hl1 hv
  · cases e
def sRetN : SM := fun e => some (.rt (.im .non), e)
theorem ss_retN : SSX K A tRetN sRetN := fun σ B H env env' fl E S e q => by
  cases e
  exact q σ B H _ (Same.refl _) S.len ⟨S.nil_app, .non⟩
def sIf (c : M Bool) (m n : SM) : SM := fun e => match c e with
  | some (b, e') => if b = true then m e' else n e'
  | none => none
theorem ss_if {tc : TT} {t u : TS} {c : M Bool} {m n : SM} (hc : STX K A tc c) (h : SSX K A t m) (h2 : SSX K A u n) : SSX K A (tIfS tc t u) (sIf c m n) := fun σ B H env env' fl E S e q => by
  unfold sIf at e
  split at e
  · rename_i b e1 he
    refine hc σ [] B H env [] e1 b _ S.nil_app S.len he fun B1 H1 s1 hl1 S1 => ?_
    cases b with
    | true =>
      rw [if_pos rfl] at e ⊢
      exact h σ B1 H1 e1 env' fl E S1.app_nil e (q.mono s1)
    | false =>
      rw [if_neg Bool.false_ne_true] at e ⊢
      exact h2 σ B1 H1 e1 env' fl E S1.app_nil e (q.mono s1)
  · cases e

/-! ### targets -/
theorem wipe_set {i : Nat} {x : Option V} : ∀ {vs : List Nat} {σ : L2.St}, i ∈ vs → wipe (σ.set i x) vs = wipe σ vs
  | [], _, h => by cases h
  | v :: vs, σ, h => by
    show (wipe (σ.set i x) vs).set v none = (wipe σ vs).set v none
    by_cases hv : i ∈ vs
    · rw [wipe_set hv]
    · have e : i = v := by
        rcases List.mem_cons.mp h with e | e
        · exact e
        · exact absurd e hv
      subst e
      have c : ∀ (us : List Nat) (ρ : L2.St), wipe (ρ.set i x) us = if i ∈ us then wipe ρ us else (wipe ρ us).set i x := by
        intro us
        induction us with
        | nil => intro ρ; rw [if_neg (by simp)]; rfl
        | cons u us ih =>
          intro ρ
          show (wipe (ρ.set i x) us).set u none = _
          rw [ih ρ]
          by_cases h1 : i ∈ us
          · rw [if_pos h1, if_pos (List.mem_cons_of_mem _ h1)]
            rfl
          · rw [if_neg h1]
            by_cases h2 : i = u
            · subst h2
              rw [if_pos List.mem_cons_self, List.set_set]
              rfl
            · rw [if_neg (by simp [h1, h2])]
              show ((wipe ρ us).set i x).set u none = ((wipe ρ us).set u none).set i x
              exact List.set_comm _ _ h2
      rw [c vs σ, if_neg hv, List.set_set]
/-- a name -/
def gN (i : Nat) : Vl → M Unit := fun r env => if i < env.length then match r with
    | .im d => some ((), env.set i (.im d))
    | .fr d => some ((), env.set i (.ow d))
    | .bo j => match frz (.bo j) env with
      | some (d, e1) => some ((), e1.set i (.im d))
      | none => none
  else none
theorem getE_snoc {α : Type} {l : List α} {x y : α} {i : Nat} (h : (l ++ [x])[i]? = some y) : (i < l.length ∧ l[i]? = some y) ∨ (i = l.length ∧ y = x) := by
  by_cases hi : i < l.length
  · rw [List.getElem?_append_left hi] at h
    exact .inl ⟨hi, h⟩
  · rw [List.getElem?_append_right (by omega)] at h
    have h1 : i - l.length < [x].length := (List.getElem?_eq_some_iff.mp h).1
    have h3 : i - l.length = 0 := by simpa using h1
    rw [h3] at h
    exact .inr ⟨by omega, (Option.some.inj h).symm⟩
/-- the last slot is moved to place i -/
theorem SR.move {i : Nat} {ov : Option V} {sl : Sl} (S : SR K A B H (σ ++ [ov]) (env ++ [sl])) (hl : σ.length = env.length) (hi : i < env.length) : SR K A B H (σ.set i ov) (env.set i sl) := by
  refine S.sub (by simp [hl]) (fun j => if j = i then env.length else j) (fun a b s1 s2 e1 e2 _ _ h => ?_) (fun j s e _ => ?_)
  · have ha : a < env.length := by simpa using (List.getElem?_eq_some_iff.mp e1).1
    have hb : b < env.length := by simpa using (List.getElem?_eq_some_iff.mp e2).1
    split at h <;> split at h <;> omega
  · have hj : j < env.length := by simpa using (List.getElem?_eq_some_iff.mp e).1
    split
    · rename_i q
      subst q
      rw [List.getElem?_set_self hi] at e
      cases e
      refine ⟨by simp, ?_⟩
      rw [List.getElem?_set_self (by rw [hl]; exact hi), ← hl]
      simp
    · rename_i q
      rw [List.getElem?_set_ne (fun z => q z.symm)] at e ⊢
      refine ⟨by rw [List.getElem?_append_left hj]; exact e, ?_⟩
      rw [List.getElem?_append_left (by rw [hl]; exact hj)]
theorem sg_name {i : Nat} : SGX K A [i] (gName i) (gN i) := fun σ τ B H env pe env' r v Q hv hl e q => by
  unfold gN at e
  split at e
  · rename_i hi
    have hiσ : i < σ.length := by rw [hl]; exact hi
    have wp : ∀ vs : List Nat, (∀ j ∈ [i], j ∈ vs) → wipe (σ.set i (some v)) vs = wipe σ vs := fun vs h => wipe_set (h i (by simp))
    cases r with
    | im d =>
      cases e
      obtain ⟨S, rr⟩ := hv
      refine q _ B H (Same.refl _) (by simp [hl]) wp ?_
      have := S.setIm (i := i) rr
      rw [List.set_append_left _ _ hiσ, List.set_append_left _ _ hi] at this
      exact this
    | fr d =>
      cases e
      have S : SR K A B H (σ ++ τ ++ [some v]) (env ++ pe ++ [.ow d]) := hv
      have hl2 : (σ ++ τ).length = (env ++ pe).length := by
        have := S.len
        simp only [List.length_append, List.length_cons, List.length_nil] at this ⊢
        omega
      refine q _ B H (Same.refl _) (by simp [hl]) wp ?_
      have := S.move (i := i) hl2 (by simp only [List.length_append]; omega)
      rw [List.set_append_left _ _ hiσ, List.set_append_left _ _ hi] at this
      exact this
    | bo j =>
      dsimp only at e
      split at e
      · rename_i d e1 he
        cases e
        obtain ⟨S, hj⟩ := hv
        obtain ⟨B1, s1, S1, hl1, rr⟩ := frz_ok (r := .bo j) S hl hj he
        refine q _ B1 H s1 (by simp [hl1]) wp ?_
        have := S1.setIm (i := i) rr
        rw [List.set_append_left _ _ hiσ, List.set_append_left _ _ (by rw [← hl1]; exact hiσ)] at this
        exact this
      · cases e
  · cases e
def gsN : List D → M Unit := fun ds e => match ds with
  | [] => some ((), e)
  | _ => none
def gsC (g : Vl → M Unit) (gs : List D → M Unit) : List D → M Unit := fun ds e => match ds with
  | d :: r => match g (.im d) e with
    | some (_, e1) => gs r e1
    | none => none
  | [] => none
theorem sgs_nil : SGsX K A [] gNil gsN := fun σ τ B H env pe env' ds vs Q S rr hl e q => by
  unfold gsN at e
  split at e
  · cases e
    cases rr
    exact ⟨rfl, q σ B H (Same.refl _) hl (fun _ _ => rfl) S⟩
  · cases e
theorem sgs_cons {ts us : List Nat} {t : TG} {u : TGs} {g : Vl → M Unit} {gs : List D → M Unit} (h : SGX K A ts t g) (h2 : SGsX K A us u gs) : SGsX K A (ts ++ us) (gCons t u) (gsC g gs) := fun σ τ B H env pe env' ds vs Q S rr hl e q => by
  unfold gsC at e
  split at e
  · rename_i d r
    split at e
    · rename_i e1 he
      cases rr with
      | @cons _ v _ vr r1 r2 =>
        refine ⟨v, vr, rfl, h σ τ B H env pe e1 (.im d) v _ ⟨S, r1⟩ hl he fun σ1 B1 H1 s1 hl1 w1 S1 => ?_⟩
        refine h2 σ1 τ B1 H1 e1 pe env' r vr Q S1 (r2.mono s1) hl1 e fun σ2 B2 H2 s2 hl2 w2 S2 => ?_
        refine q σ2 B2 H2 (s1.trans s2) hl2 (fun ws hw => ?_) S2
        rw [w2 ws fun i hi => hw i (List.mem_append_right _ hi), w1 ws fun i hi => hw i (List.mem_append_left _ hi)]
    · cases e
  · cases e
/-- (a, b, ..) of a tuple -/
def gT (n : Nat) (gs : List D → M Unit) : Vl → M Unit := fun r e => match r with
  | .im (.tup ds) => if ds.length = n then gs ds e else none
  | _ => none
theorem sg_tup {ts : List Nat} {t : TGs} {gs : List D → M Unit} {n : Nat} (h : SGsX K A ts t gs) : SGX K A ts (gTup K n t) (gT n gs) := fun σ τ B H env pe env' r v Q hv hl e q => by
  unfold gT at e
  split at e
  · rename_i ds
    split at e
    · rename_i hn
      obtain ⟨S, rr⟩ := hv
      cases rr with
      | @tup a xs _ hs r2 =>
        exact ⟨a, xs, rfl, (hs.same S.same).sq, by rw [← r2.length]; exact hn, h σ τ B H env pe env' ds xs Q S r2 hl e q⟩
    · cases e
  · cases e
def sAsg (m : M Vl) (g : Vl → M Unit) : SM := fun e => match m e with
  | some (r, e1) => match g r e1 with
    | some (_, e2) => some (.nx, e2)
    | none => none
  | none => none
theorem ss_asg {ts : List Nat} {t : TE} {u : TG} {m : M Vl} {g : Vl → M Unit} (h : SEX K A t m) (h2 : SGX K A ts u g) : SSX K A (tAsg t u) (sAsg m g) := fun σ B H env env' fl E S e q => by
  unfold sAsg at e
  split at e
  · rename_i r e1 he
    split at e
    · rename_i e2 hg
      cases e
      refine h σ [] B H env [] e1 r _ S.nil_app S.len he fun B1 H1 v s1 hl1 hv => ?_
      exact h2 σ [] B1 H1 e1 [] _ r v _ hv hl1 hg fun σ2 B2 H2 s2 hl2 _ S2 => q σ2 B2 H2 (s1.trans s2) S2.app_nil
    · cases e
  · cases e

/-! ### loops -/
theorem WD.yield {J : It} {B0 : Hp} {items : List D} (w : WD K J B0 items) {i : Nat} {x : V} {H' : Hp} {d : D} (hi : items[i]? = some d) (s : Same B0 B) (S : SR K A B H σ env) (y : J.yld i H x H') :
    ∃ B', Same B B' ∧ SR K A B' H' σ env ∧ Rp K B' d x := by
  obtain ⟨d', hd, h⟩ := w.yields i H B x H' (List.getElem?_eq_some_iff.mp hi).1 s S.same y
  rw [hi] at hd
  cases hd
  rcases h with ⟨rfl, r⟩ | ⟨T, xs, ds, rfl, nT, rfl, rfl, r⟩
  · exact ⟨B, Same.refl _, S, r⟩
  · obtain ⟨S1, s1⟩ := S.laidF (o := .tup xs) nT
    exact ⟨_, s1, S1, .tup upd_same (r.mono s1)⟩
def forL (g : Vl → M Unit) (b : SM) : List D → SM
  | [], e => some (.nx, e)
  | d :: ds, e => match g (.im d) e with
    | none => none
    | some (_, e1) => match b e1 with
      | some (.nx, e2) => forL g b ds e2
      | some (.ct, e2) => forL g b ds e2
      | some (.bk, e2) => some (.nx, e2)
      | some (.rt v, e2) => some (.rt v, e2)
      | none => none
def sFor (mi : M (List D)) (g : Vl → M Unit) (b : SM) : SM := fun e => match mi e with
  | some (ds, e1) => forL g b ds e1
  | none => none
theorem ss_for {ts : List Nat} {wi : TI} {t : TG} {tb : TS} {mi : M (List D)} {g : Vl → M Unit} {b : SM} (hi : SIX K A wi mi) (hg : SGX K A ts t g) (hb : SSX K A tb b) : SSX K A (tFor wi t tb) (sFor mi g b) := fun σ B H env env' fl E S e q => by
  unfold sFor at e
  split at e
  · rename_i ds e1 he
    refine hi σ [] B H env [] e1 ds _ S.nil_app S.len he fun B1 H1 J s1 hl1 S1 w => ?_
    refine ⟨fun i m σ' H' => m = ds.length - i ∧ i ≤ ds.length ∧ ∃ B' en, Same B1 B' ∧ SR K A B' H' σ' en ∧ forL g b (ds.drop i) en = some (fl, env'),
      ⟨ds.length, by omega, by omega, B1, e1, Same.refl _, S1.app_nil, by simpa using e⟩, ?_⟩
    rintro i m σ' H' ⟨rfl, hi, B2, en, s2, S2, ef⟩
    by_cases hlt : i < ds.length
    · have hd : ds.drop i = ds[i] :: ds.drop (i + 1) := List.drop_eq_getElem_cons hlt
      rw [hd] at ef
      unfold forL at ef
      split at ef
      · cases ef
      · rename_i e2 hge
        refine .inr ⟨w.goes i H' B2 hlt s2 S2.same, fun σ3 H3 => i + 1 ≤ ds.length ∧ ∃ B' en, Same B1 B' ∧ SR K A B' H3 σ3 en ∧ forL g b (ds.drop (i + 1)) en = some (fl, env'),
          fun σ3 H3 h => ⟨ds.length - (i + 1), by omega, rfl, h⟩, fun x H3 y => ?_⟩
        obtain ⟨B3, s3, S3, r3⟩ := w.yield (List.getElem?_eq_getElem hlt) s2 S2 y
        refine hg σ' [] B3 H3 en [] e2 (.im ds[i]) x _ ⟨S3.nil_app, r3⟩ S2.len hge fun σ4 B4 H4 s4 hl4 _ S4 => ?_
        have S4 := S4.app_nil
        have s14 : Same B1 B4 := (s2.trans s3).trans s4
        split at ef
        · rename_i e3 hbe
          exact hb σ4 B4 H4 e2 e3 .nx _ S4 hbe fun σ5 B5 H5 s5 S5 => ⟨by omega, B5, e3, s14.trans s5, S5, ef⟩
        · rename_i e3 hbe
          exact hb σ4 B4 H4 e2 e3 .ct _ S4 hbe fun σ5 B5 H5 s5 S5 => ⟨by omega, B5, e3, s14.trans s5, S5, ef⟩
        · rename_i e3 hbe
          cases ef
          exact hb σ4 B4 H4 e2 _ .bk _ S4 hbe fun σ5 B5 H5 s5 S5 => q σ5 B5 H5 (s1.trans (s14.trans s5)) S5
        · rename_i v e3 hbe
          cases ef
          exact hb σ4 B4 H4 e2 _ (.rt v) _ S4 hbe fun σ5 B5 H5 v s5 => q σ5 B5 H5 v (s1.trans (s14.trans s5))
        · cases ef
    · have ei : i = ds.length := by omega
      subst ei
      rw [List.drop_length] at ef
      cases ef
      exact .inl ⟨w.stops H' B2 s2 S2.same, q σ' B2 H' (s1.trans s2) S2⟩
  · cases e
/-- while, n turns at most -/
def whlL (c : M Bool) (b : SM) : Nat → SM
  | 0, _ => none
  | n + 1, e => match c e with
    | none => none
    | some (false, e1) => some (.nx, e1)
    | some (true, e1) => match b e1 with
      | some (.nx, e2) => whlL c b n e2
      | some (.ct, e2) => whlL c b n e2
      | some (.bk, e2) => some (.nx, e2)
      | some (.rt v, e2) => some (.rt v, e2)
      | none => none
def sWhl (n : Nat) (c : M Bool) (b : SM) : SM := whlL c b n
theorem ss_whl {tc : TT} {tb : TS} {c : M Bool} {b : SM} {n : Nat} (hc : STX K A tc c) (hb : SSX K A tb b) : SSX K A (tWhile tc tb) (sWhl n c b) := fun σ B H env env' fl E S e q => by
  refine ⟨fun m σ' H' => ∃ B' en, Same B B' ∧ SR K A B' H' σ' en ∧ whlL c b m en = some (fl, env'), ⟨n, B, env, Same.refl _, S, e⟩, ?_⟩
  rintro m σ' H' ⟨B2, en, s2, S2, ef⟩
  cases m with
  | zero => cases ef
  | succ m =>
    unfold whlL at ef
    split at ef
    · cases ef
    · rename_i e1 he
      cases ef
      refine hc σ' [] B2 H' en [] _ false _ S2.nil_app S2.len he fun B3 H3 s3 hl3 S3 => ?_
      rw [if_neg Bool.false_ne_true]
      exact q σ' B3 H3 (s2.trans s3) S3.app_nil
    · rename_i e1 he
      refine hc σ' [] B2 H' en [] e1 true _ S2.nil_app S2.len he fun B3 H3 s3 hl3 S3 => ?_
      rw [if_pos rfl]
      have S3 := S3.app_nil
      refine ⟨fun σ4 H4 => ∃ B' en, Same B B' ∧ SR K A B' H4 σ4 en ∧ whlL c b m en = some (fl, env'), fun σ4 H4 h => ⟨m, by omega, h⟩, ?_⟩
      have s23 := s2.trans s3
      split at ef
      · rename_i e3 hbe
        exact hb σ' B3 H3 e1 e3 .nx _ S3 hbe fun σ5 B5 H5 s5 S5 => ⟨B5, e3, s23.trans s5, S5, ef⟩
      · rename_i e3 hbe
        exact hb σ' B3 H3 e1 e3 .ct _ S3 hbe fun σ5 B5 H5 s5 S5 => ⟨B5, e3, s23.trans s5, S5, ef⟩
      · rename_i e3 hbe
        cases ef
        exact hb σ' B3 H3 e1 _ .bk _ S3 hbe fun σ5 B5 H5 s5 S5 => q σ5 B5 H5 (s23.trans s5) S5
      · rename_i v e3 hbe
        cases ef
        exact hb σ' B3 H3 e1 _ (.rt v) _ S3 hbe fun σ5 B5 H5 v s5 => q σ5 B5 H5 v (s23.trans s5)
      · cases ef

/-! ### comprehensions -/
def wipeE (e : Env) : List Nat → Env
  | [] => e
  | v :: vs => (wipeE e vs).set v .em
theorem wipeE_length (e : Env) : ∀ vs : List Nat, (wipeE e vs).length = e.length
  | [] => rfl
  | v :: vs => by
    show ((wipeE e vs).set v .em).length = _
    rw [List.length_set, wipeE_length e vs]
theorem SR.wipe (S : SR K A B H (σ ++ τ) (env ++ pe)) (hl : σ.length = env.length) : ∀ vs : List Nat, SR K A B H (L2.wipe σ vs ++ τ) (wipeE env vs ++ pe)
  | [] => S
  | v :: vs => by
    have S1 := SR.wipe S hl vs
    show SR K A B H ((L2.wipe σ vs).set v none ++ τ) ((wipeE env vs).set v .em ++ pe)
    by_cases hv : v < σ.length
    · have := S1.setEm (i := v) (ov := none)
      rw [List.set_append_left _ _ (by rw [wipe_length]; exact hv), List.set_append_left _ _ (by rw [wipeE_length, ← hl]; exact hv)] at this
      exact this
    · rw [List.set_eq_of_length_le (by rw [wipe_length]; omega), List.set_eq_of_length_le (by rw [wipeE_length, ← hl]; omega)]
      exact S1
def calmS : Option Sl → Bool
  | some (.ow _) => false
  | some (.io _ _) => false
  | _ => true
/-- the slots of the block's own names as they were ahead -/
def unwipe (e0 e : Env) : List Nat → Env
  | [] => e
  | v :: vs => match e0[v]? with
    | some sl => (unwipe e0 e vs).set v sl
    | none => unwipe e0 e vs
def compL (vs : List Nat) (g : Vl → M Unit) (tt : M Bool) (te : M Vl) : List D → M (List D)
  | [], e => some ([], e)
  | d :: ds, e => match g (.im d) e with
    | none => none
    | some (_, e1) => match tt e1 with
      | none => none
      | some (false, e2) => compL vs g tt te ds (wipeE e2 vs)
      | some (true, e2) => match te e2 with
        | none => none
        | some (r, e3) => match frz r.hold e3 with
          | none => none
          | some (y, e4) => match compL vs g tt te ds (wipeE e4 vs) with
            | none => none
            | some (ys, e5) => some (y :: ys, e5)
def eComp (vs : List Nat) (mi : M (List D)) (g : Vl → M Unit) (tt : M Bool) (te : M Vl) : M Vl := fun e => match mi e with
  | none => none
  | some (ds, e1) => if (vs.all fun v => calmS e1[v]?) = true then match compL vs g tt te ds (wipeE e1 vs) with
      | none => none
      | some (ys, e2) => if small ys.length = true then some (.fr (.lst ys), unwipe e1 e2 vs) else none
    else none
theorem wipe_get {i : Nat} : ∀ {vs : List Nat}, i ∉ vs → (L2.wipe σ vs)[i]? = σ[i]? := fun {vs} h => wipe_out h
theorem compL_len {vs : List Nat} {g : Vl → M Unit} {tt : M Bool} {te : M Vl} : ∀ {ds : List D} {e e' : Env} {ys : List D}, compL vs g tt te ds e = some (ys, e') → ys.length ≤ ds.length
  | [], e, e', ys, h => by
    cases h
    exact Nat.le_refl _
  | d :: ds, e, e', ys, h => by
    unfold compL at h
    split at h
    · cases h
    · split at h
      · cases h
      · have := compL_len h
        rw [List.length_cons]
        omega
      · split at h
        · cases h
        · split at h
          · cases h
          · split at h
            · cases h
            · rename_i hc
              cases h
              have := compL_len hc
              rw [List.length_cons, List.length_cons]
              omega
/-- behind the block: the own names' slots are as they were -/
theorem SR.unwiped {e1 : Env} : ∀ {vs : List Nat} {B : Hp} {e2 : Env}, vs.Nodup → SR K A B H (L2.wipe σ vs ++ τ) (e2 ++ pe) → e2.length = σ.length → (∀ v ∈ vs, ∀ sl ov, e1[v]? = some sl → σ[v]? = some ov → SlOk K A B H sl ov) → (∀ v ∈ vs, calmS e1[v]? = true) → e1.length = σ.length →
    SR K A B H (σ ++ τ) (unwipe e1 e2 vs ++ pe) ∧ (unwipe e1 e2 vs).length = σ.length := by
  intro vs
  induction vs generalizing σ with
  | nil => exact fun _ S h _ _ _ => ⟨S, h⟩
  | cons v vs ih =>
    intro B e2 nd S h hs hc h1
    obtain ⟨nd1, nd2⟩ := List.nodup_cons.mp nd
    have hu : (unwipe e1 e2 (v :: vs)) = match e1[v]? with
      | some sl => (unwipe e1 e2 vs).set v sl
      | none => unwipe e1 e2 vs := rfl
    -- σ with v forgotten
    have ew : L2.wipe σ (v :: vs) = L2.wipe (σ.set v none) vs := by
      show (L2.wipe σ vs).set v none = L2.wipe (σ.set v none) vs
      have c : ∀ (us : List Nat), L2.wipe (σ.set v none) us = (L2.wipe σ us).set v none := by
        intro us
        induction us with
        | nil => rfl
        | cons u us ih2 =>
          show (L2.wipe (σ.set v none) us).set u none = ((L2.wipe σ us).set u none).set v none
          rw [ih2]
          by_cases q : v = u
          · subst q; rfl
          · exact List.set_comm _ _ q
      exact (c vs).symm
    rw [ew] at S
    by_cases hv : v < σ.length
    · obtain ⟨sl, hsl⟩ : ∃ sl, e1[v]? = some sl := ⟨_, List.getElem?_eq_getElem (by omega)⟩
      obtain ⟨ov, hov⟩ : ∃ ov, σ[v]? = some ov := ⟨_, List.getElem?_eq_getElem hv⟩
      -- v itself is calm: em or im
      have ok := hs v List.mem_cons_self sl ov hsl hov
      have cl := hc v List.mem_cons_self
      rw [hsl] at cl
      have IH := ih (σ := σ.set v none) (B := B) (e2 := e2) nd2 S (by simpa using h) (fun u hu sl' ov' g1 g2 => ?_) (fun u hu => hc u (List.mem_cons_of_mem _ hu)) (by simpa using h1)
      · obtain ⟨S1, hl1⟩ := IH
        rw [hu, hsl]
        dsimp only
        have hl1 : (unwipe e1 e2 vs).length = σ.length := by simpa using hl1
        have key : ∀ x, (σ.set v x).set v ov = σ := fun x => by
          rw [List.set_set]
          exact list_set_self hov
        refine ⟨?_, by simpa using hl1⟩
        cases ok with
        | em =>
          have := S1.setEm (i := v) (ov := ov)
          rw [List.set_append_left _ _ (by simpa using hv), List.set_append_left _ _ (by omega), key] at this
          exact this
        | im rr =>
          rename_i d v'
          have := S1.setIm (i := v) rr
          rw [List.set_append_left _ _ (by simpa using hv), List.set_append_left _ _ (by omega), key] at this
          exact this
        | ow _ _ _ => cases cl
        | io _ _ => cases cl
      · by_cases q : u = v
        · exact absurd (q ▸ hu) nd1
        · rw [List.getElem?_set_ne (fun z => q z.symm)] at g2
          exact hs u (List.mem_cons_of_mem _ hu) sl' ov' g1 g2
    · have hn : e1[v]? = none := List.getElem?_eq_none (by omega)
      have es : σ.set v none = σ := List.set_eq_of_length_le (by omega)
      rw [es] at S
      rw [hu, hn]
      exact ih nd2 S h (fun u hu => hs u (List.mem_cons_of_mem _ hu)) (fun u hu => hc u (List.mem_cons_of_mem _ hu)) h1
theorem wipe_wipe : ∀ (vs us : List Nat) (ρ : L2.St), (∀ v ∈ us, v ∈ vs) → L2.wipe (L2.wipe ρ us) vs = L2.wipe ρ vs
  | vs, [], ρ, _ => rfl
  | vs, u :: us, ρ, h => by
    show L2.wipe ((L2.wipe ρ us).set u none) vs = _
    rw [wipe_set (h u List.mem_cons_self)]
    exact wipe_wipe vs us ρ fun v hv => h v (List.mem_cons_of_mem _ hv)
theorem sx_comp {ts vs : List Nat} {wi : TI} {t : TG} {tt : TT} {te : TE} {mi : M (List D)} {g : Vl → M Unit} {mt : M Bool} {me : M Vl} (nd : vs.Nodup) (ht : ∀ i ∈ ts, i ∈ vs) (hi : SIX K A wi mi) (hg : SGX K A ts t g) (hc : STX K A tt mt) (he : SEX K A te me) :
    SEX K A (tLc wi t tt te vs) (eComp vs mi g mt me) := fun σ τ B H env pe env' r Q S hl e q => by
  unfold eComp at e
  split at e
  · cases e
  · rename_i ds e1 hie
    split at e
    · rename_i hcalm
      split at e
      · cases e
      · rename_i ys e2 hcl
        split at e
        · rename_i hsm
          cases e
          have hsz : ys.length ≤ sizeLine := of_decide_eq_true hsm
          refine hi σ τ B H env pe e1 ds _ S hl hie fun B1 H1 J s1 hl1 S1 w D hD => ?_
          have S2 : SR K A B1 (upd H1 D (.lst [])) (L2.wipe σ vs ++ τ ++ [some (.ref D)]) (wipeE e1 vs ++ pe ++ [.ow (.lst [])]) := (S1.wipe hl1 vs).push hD (.lst .nil)
          refine ⟨fun i m H' => m = ds.length - i ∧ i ≤ ds.length ∧ ∃ B' en acc rest, Same B1 B' ∧ SR K A B' H' (L2.wipe σ vs ++ (τ ++ [some (.ref D)])) (en ++ (pe ++ [.ow (.lst acc)])) ∧ σ.length = en.length ∧ compL vs g mt me (ds.drop i) en = some (rest, e2) ∧ acc ++ rest = ys,
            ⟨ds.length, by omega, by omega, B1, wipeE e1 vs, [], ys, Same.refl _, by simpa [List.append_assoc] using S2, by rw [wipeE_length]; exact hl1, by simpa using hcl, rfl⟩, ?_⟩
          rintro i m H' ⟨rfl, hi', B3, en, acc, rest, s3, S3, hl3, ec, ey⟩
          by_cases hlt : i < ds.length
          · have hd : ds.drop i = ds[i] :: ds.drop (i + 1) := List.drop_eq_getElem_cons hlt
            rw [hd] at ec
            unfold compL at ec
            split at ec
            · cases ec
            · rename_i e3 hge
              refine .inr ⟨w.goes i H' B3 hlt s3 S3.same, fun H3 => i + 1 ≤ ds.length ∧ ∃ B' en acc rest, Same B1 B' ∧ SR K A B' H3 (L2.wipe σ vs ++ (τ ++ [some (.ref D)])) (en ++ (pe ++ [.ow (.lst acc)])) ∧ σ.length = en.length ∧ compL vs g mt me (ds.drop (i + 1)) en = some (rest, e2) ∧ acc ++ rest = ys,
                fun H3 h => ⟨ds.length - (i + 1), by omega, rfl, h⟩, fun x H3 y => ?_⟩
              obtain ⟨B4, s4, S4, r4⟩ := w.yield (List.getElem?_eq_getElem hlt) s3 S3 y
              refine hg (L2.wipe σ vs) (τ ++ [some (.ref D)]) B4 H3 en (pe ++ [.ow (.lst acc)]) e3 (.im ds[i]) x _ ⟨S4, r4⟩ (by rw [wipe_length]; exact hl3) hge fun σ5 B5 H5 s5 hl5 w5 S5 => ?_
              have wv : L2.wipe σ5 vs = L2.wipe σ vs := by
                rw [w5 vs ht, wipe_wipe vs vs σ fun _ h => h]
              have l5 : σ5.length = σ.length := by
                have := congrArg List.length wv
                rwa [wipe_length, wipe_length] at this
              refine ⟨wv, ?_⟩
              have s35 : Same B1 B5 := (s3.trans s4).trans s5
              split at ec
              · cases ec
              · rename_i e4 hte
                refine hc σ5 (τ ++ [some (.ref D)]) B5 H5 e3 (pe ++ [.ow (.lst acc)]) e4 false _ S5 hl5 hte fun B6 H6 s6 hl6 S6 => ?_
                rw [if_neg Bool.false_ne_true]
                have S7 := S6.wipe hl6 vs
                rw [wv] at S7
                exact ⟨by omega, B6, wipeE e4 vs, acc, rest, s35.trans s6, S7, by rw [wipeE_length]; omega, ec, ey⟩
              · rename_i e4 hte
                refine hc σ5 (τ ++ [some (.ref D)]) B5 H5 e3 (pe ++ [.ow (.lst acc)]) e4 true _ S5 hl5 hte fun B6 H6 s6 hl6 S6 => ?_
                rw [if_pos rfl]
                split at ec
                · cases ec
                · rename_i r e5 hee
                  split at ec
                  · cases ec
                  · rename_i yd e6 hfe
                    split at ec
                    · cases ec
                    · rename_i ys' e7 hcl2
                      cases ec
                      refine he σ5 (τ ++ [some (.ref D)]) B6 H6 e4 (pe ++ [.ow (.lst acc)]) e5 r _ S6 hl6 hee fun B7 H7 v s7 hl7 hv => ?_
                      obtain ⟨B8, s8, S8, hh⟩ := hv.held
                      obtain ⟨B9, s9, S9, hl9, r9⟩ := frz_ok S8 hl7 hh hfe
                      have S10 := S9.wipe hl9 vs
                      rw [wv] at S10
                      -- the list at D grows
                      have ln : (L2.wipe σ vs ++ τ).length = (wipeE e6 vs ++ pe).length := by
                        have := S10.len
                        simp only [List.length_append, List.length_cons, List.length_nil] at this ⊢
                        omega
                      have g1 : (wipeE e6 vs ++ (pe ++ [Sl.ow (.lst acc)]))[(wipeE e6 vs ++ pe).length]? = some (.ow (.lst acc)) := by
                        rw [← List.append_assoc]
                        simp
                      have g2 : (L2.wipe σ vs ++ (τ ++ [some (V.ref D)]))[(wipeE e6 vs ++ pe).length]? = some (some (.ref D)) := by
                        rw [← List.append_assoc, ← ln]
                        simp
                      cases S10.slot _ _ _ g1 g2 with
                      | ow b0 h0 c0 =>
                        generalize ho : H7 D = o at c0
                        cases c0 with
                        | @lst accV _ ra =>
                          have la : acc.length < ys.length := by
                            rw [← ey, List.length_append, List.length_cons]
                            omega
                          refine ⟨accV, rfl, by rw [← ra.length]; omega, by omega, B9, wipeE e6 vs, acc ++ [yd], ys', (((s35.trans s6).trans s7).trans s8).trans s9, ?_, by rw [wipeE_length]; omega, hcl2, by rw [← ey]; simp⟩
                          have W := S10.write (sl' := .ow (.lst (acc ++ [yd]))) (o := .lst (accV ++ [v])) g1 (.inl ⟨rfl, rfl⟩) g2 (.lst (Rps.app ra (.one r9)))
                          have es : (wipeE e6 vs ++ (pe ++ [Sl.ow (.lst acc)])).set (wipeE e6 vs ++ pe).length (.ow (.lst (acc ++ [yd]))) = wipeE e6 vs ++ (pe ++ [.ow (.lst (acc ++ [yd]))]) := by
                            rw [← List.append_assoc, ← List.append_assoc]
                            simp
                          rw [es] at W
                          exact W
          · have ei : i = ds.length := by omega
            subst ei
            rw [List.drop_length] at ec
            cases ec
            refine .inl ⟨w.stops H' B3 s3 S3.same, ?_⟩
            have ea : acc = ys := by simpa using ey
            subst ea
            have U := SR.unwiped (σ := σ) (vs := vs) (e1 := e1) nd S3 hl3.symm (fun v hv sl ov g1 g2 => ?_) (fun v hv => (List.all_eq_true.mp hcalm) v hv) hl1.symm
            · obtain ⟨U1, U2⟩ := U
              refine q B3 H' (.ref D) (s1.trans s3) U2.symm ?_
              show SR K A B3 H' (σ ++ τ ++ [some (.ref D)]) (unwipe e1 e2 vs ++ pe ++ [.ow (.lst acc)])
              rw [List.append_assoc, List.append_assoc]
              exact U1
            · have ok := S1.at hl1 g1 g2
              have cl := (List.all_eq_true.mp hcalm) v hv
              rw [g1] at cl
              cases ok with
              | em => exact .em
              | im rr => exact .im (rr.mono s3)
              | ow _ _ _ => cases cl
              | io _ _ => cases cl
        · cases e
    · cases e
end
end PD
namespace PD
open PySem PySem.Spec PyProof.Rows L2

/-! ### data without lists, dicts -/
mutual
def D.nm : D → Bool
  | .non => true
  | .bl _ => true
  | .int _ => true
  | .str _ => true
  | .tup ds => nms ds
  | .lst _ => false
  | .dk _ => false
  | .dt _ => false
  | .sc _ => false
  | .ty _ => true
  | .txt _ => true
  | .tp ds => nms ds
def nms : List D → Bool
  | [] => true
  | d :: ds => d.nm && nms ds
end
/-- a container's items are such -/
def D.nmC : D → Bool
  | .lst ds => nms ds
  | .dk es => nms (es.map (·.2))
  | .dt es => nms (es.map (·.2))
  | _ => false
def Vl.nm : Vl → Bool
  | .im d => d.nm
  | .fr d => d.nmC
  | .bo _ => false
section
variable {K : PySem.W.Frag} {B B2 : Hp}
mutual
theorem Rp.thaw (hB : ∀ a o, TuO o → B a = some o → B2 a = some o) : ∀ {d : D} {v : V}, d.nm = true → Rp K B d v → Rp K B2 d v
  | _, _, _, .non => .non
  | _, _, _, .bl b => .bl b
  | _, _, _, .int i => .int i
  | _, _, _, .str x h => .str x h
  | _, _, _, .ty n => .ty n
  | _, _, _, .txt x => .txt x
  | _, _, n, .tup h r => .tup (hB _ _ True.intro h) (Rps.thaw hB (by simpa [D.nm] using n) r)
  | _, _, n, .tp h d r => .tp (hB _ _ True.intro h) d (Rps.thaw hB (by simpa [D.nm] using n) r)
  | _, _, n, .lst h r => by simp [D.nm] at n
  | _, _, n, .dk h e r => by simp [D.nm] at n
  | _, _, n, .sc h => by simp [D.nm] at n
  | _, _, n, .dt h e r => by simp [D.nm] at n
theorem Rps.thaw (hB : ∀ a o, TuO o → B a = some o → B2 a = some o) : ∀ {ds : List D} {vs : List V}, nms ds = true → Rps K B ds vs → Rps K B2 ds vs
  | _, _, _, .nil => .nil
  | d :: ds, _, n, .cons h r => by
    have n' : d.nm = true ∧ nms ds = true := by simpa [nms] using n
    exact .cons (Rp.thaw hB n'.1 h) (Rps.thaw hB n'.2 r)
end
theorem Cont.thaw (hB : ∀ a o, TuO o → B a = Option.some o → B2 a = Option.some o) {d : D} {o : Option HO} (n : d.nmC = true) (h : Cont K B d o) : Cont K B2 d o := by
  cases h with
  | lst r => exact .lst (r.thaw hB n)
  | dk e r => exact .dk e (r.thaw hB n)
  | dt e r => exact .dt e (r.thaw hB n)
end

/-! ### what a def does -/
/-- sem: of the arguments' contents the answer, and the parameters' contents behind it; sig: which parameters are changed -/
structure Fs where
  sem : List D → Option (Vl × List D)
  sig : List Bool
def mkE : Nat → List Bool → List D → Env
  | k, b :: bs, d :: ds => (if b = true then .io k d else .im d) :: mkE (k + 1) bs ds
  | _, _, _ => []
theorem mkE_get : ∀ {sig : List Bool} {ds : List D} {k j : Nat} {sl : Sl}, (mkE k sig ds)[j]? = some sl → ∃ b d, sig[j]? = some b ∧ ds[j]? = some d ∧ sl = if b = true then .io (k + j) d else .im d
  | [], ds, k, j, sl, h => by simp [mkE] at h
  | b :: bs, [], k, j, sl, h => by simp [mkE] at h
  | b :: bs, d :: ds, k, 0, sl, h => by
    simp [mkE] at h
    exact ⟨b, d, rfl, rfl, h.symm⟩
  | b :: bs, d :: ds, k, j + 1, sl, h => by
    have h : (mkE (k + 1) bs ds)[j]? = some sl := by simpa [mkE] using h
    obtain ⟨b', d', h1, h2, h3⟩ := mkE_get h
    exact ⟨b', d', by simpa using h1, by simpa using h2, by rw [h3, show k + 1 + j = k + (j + 1) by omega]⟩
theorem mkE_at : ∀ {sig : List Bool} {ds : List D} {k j : Nat} {b : Bool} {d : D}, sig[j]? = some b → ds[j]? = some d → (mkE k sig ds)[j]? = some (if b = true then .io (k + j) d else .im d)
  | [], ds, k, j, b, d, h, _ => by simp at h
  | _ :: _, [], k, j, b, d, _, h => by simp at h
  | b :: bs, d :: ds, k, 0, _, _, h1, h2 => by
    simp at h1 h2
    subst h1 h2
    rfl
  | b :: bs, d :: ds, k, j + 1, b', d', h1, h2 => by
    have h := mkE_at (k := k + 1) (j := j) (by simpa using h1) (by simpa using h2)
    have : (mkE k (b :: bs) (d :: ds))[j + 1]? = (mkE (k + 1) bs ds)[j]? := by simp [mkE]
    rw [this, h, show k + 1 + j = k + (j + 1) by omega]
theorem mkE_length : ∀ {sig : List Bool} {ds : List D} {k : Nat}, ds.length = sig.length → (mkE k sig ds).length = sig.length
  | [], [], _, _ => rfl
  | [], _ :: _, _, h => by simp at h
  | _ :: _, [], _, h => by simp at h
  | b :: bs, d :: ds, k, h => by
    show (mkE (k + 1) bs ds).length + 1 = bs.length + 1
    rw [mkE_length (by simpa using h)]

/-- a def's promise -/
def spF (K : PySem.W.Frag) (F : Fs) : Sp := fun vs H Q _ => ∃ (A : Anc) (B : Hp) (ds ds' : List D) (r : Vl), A.H0 = H ∧ A.B0 = B ∧ SR K A B H (vs.map some) (mkE 0 F.sig ds) ∧ ds.length = F.sig.length ∧ F.sem ds = some (r, ds') ∧
  ∀ B' H' v, Same B B' → ds'.length = ds.length → VRp K A B' H' (vs.map some) (mkE 0 F.sig ds') r v → Q v H'

/-! ### a call -/
def ioIx : List Bool → List Vl → List Nat
  | true :: bs, .bo i :: rs => i :: ioIx bs rs
  | _ :: bs, _ :: rs => ioIx bs rs
  | _, _ => []
def mutAt (e : Env) (i : Nat) : Bool := match e[i]? with
  | some sl => sl.mut
  | none => false
def brIx (e : Env) : List Bool → List Vl → List Nat
  | false :: bs, .bo i :: rs => if mutAt e i = true then i :: brIx e bs rs else brIx e bs rs
  | _ :: bs, _ :: rs => brIx e bs rs
  | _, _ => []
def ioAll (e : Env) : List Bool → List Vl → Bool
  | [], [] => true
  | true :: bs, .bo i :: rs => mutAt e i && ioAll e bs rs
  | false :: bs, _ :: rs => ioAll e bs rs
  | _, _ => false
def putC (e : Env) (i : Nat) (d : D) : Env := match e[i]? with
  | some (.ow _) => e.set i (.ow d)
  | some (.io j _) => e.set i (.io j d)
  | _ => e
def updE : List Bool → List Vl → List D → Env → Env
  | true :: bs, .bo i :: rs, d :: ds, e => updE bs rs ds (putC e i d)
  | _ :: bs, _ :: rs, _ :: ds, e => updE bs rs ds e
  | _, _, _, e => e

theorem putC_length (e : Env) (i : Nat) (d : D) : (putC e i d).length = e.length := by
  unfold putC
  split <;> simp
theorem putC_ne {e : Env} {i j : Nat} {d : D} (h : i ≠ j) : (putC e i d)[j]? = e[j]? := by
  unfold putC
  split
  · exact List.getElem?_set_ne h
  · exact List.getElem?_set_ne h
  · rfl
theorem putC_self (e : Env) (i : Nat) (d : D) : (putC e i d)[i]? = match e[i]? with
    | some (.ow _) => some (.ow d)
    | some (.io j _) => some (.io j d)
    | x => x := by
  unfold putC
  split
  · rename_i h
    rw [List.getElem?_set_self (List.getElem?_eq_some_iff.mp h).1]
  · rename_i h
    rw [List.getElem?_set_self (List.getElem?_eq_some_iff.mp h).1]
  · rename_i h1 h2
    generalize e[i]? = o at h1 h2
    cases o with
    | none => rfl
    | some sl =>
      cases sl with
      | em => rfl
      | im _ => rfl
      | ow _ => exact absurd rfl (h1 _)
      | io _ _ => exact absurd rfl (h2 _ _)
theorem putC_ow {e : Env} {i : Nat} {d d0 : D} (h : e[i]? = some (.ow d0)) : (putC e i d)[i]? = some (.ow d) := by
  unfold putC
  rw [h]
  exact List.getElem?_set_self (List.getElem?_eq_some_iff.mp h).1
theorem putC_io {e : Env} {i j : Nat} {d d0 : D} (h : e[i]? = some (.io j d0)) : (putC e i d)[i]? = some (.io j d) := by
  unfold putC
  rw [h]
  exact List.getElem?_set_self (List.getElem?_eq_some_iff.mp h).1
theorem updE_length : ∀ {sig : List Bool} {rs : List Vl} {ds : List D} {e : Env}, (updE sig rs ds e).length = e.length
  | [], _, _, _ => by simp [updE]
  | _ :: _, [], _, _ => by simp [updE]
  | _ :: _, _ :: _, [], _ => by simp [updE]
  | true :: bs, .bo i :: rs, d :: ds, e => by
    show (updE bs rs ds (putC e i d)).length = _
    rw [updE_length, putC_length]
  | true :: bs, .im _ :: rs, d :: ds, e => by
    show (updE bs rs ds e).length = _
    exact updE_length
  | true :: bs, .fr _ :: rs, d :: ds, e => by
    show (updE bs rs ds e).length = _
    exact updE_length
  | false :: bs, r :: rs, d :: ds, e => by
    show (updE bs rs ds e).length = _
    exact updE_length
theorem updE_ne {i : Nat} : ∀ {sig : List Bool} {rs : List Vl} {ds : List D} {e : Env}, i ∉ ioIx sig rs → (updE sig rs ds e)[i]? = e[i]?
  | [], _, _, _, _ => by simp [updE]
  | _ :: _, [], _, _, _ => by simp [updE]
  | _ :: _, _ :: _, [], _, _ => by simp [updE]
  | true :: bs, .bo k :: rs, d :: ds, e, h => by
    have h' : ¬ (i = k ∨ i ∈ ioIx bs rs) := by simpa [ioIx] using h
    show (updE bs rs ds (putC e k d))[i]? = _
    rw [updE_ne fun z => h' (.inr z), putC_ne fun z => h' (.inl z.symm)]
  | true :: bs, .im _ :: rs, d :: ds, e, h => by
    show (updE bs rs ds e)[i]? = _
    exact updE_ne h
  | true :: bs, .fr _ :: rs, d :: ds, e, h => by
    show (updE bs rs ds e)[i]? = _
    exact updE_ne h
  | false :: bs, .im _ :: rs, d :: ds, e, h => by
    show (updE bs rs ds e)[i]? = _
    exact updE_ne h
  | false :: bs, .fr _ :: rs, d :: ds, e, h => by
    show (updE bs rs ds e)[i]? = _
    exact updE_ne h
  | false :: bs, .bo _ :: rs, d :: ds, e, h => by
    show (updE bs rs ds e)[i]? = _
    exact updE_ne h
theorem ioIx_mem {i : Nat} : ∀ {sig : List Bool} {rs : List Vl}, i ∈ ioIx sig rs → ∃ j : Nat, sig[j]? = some true ∧ rs[j]? = some (Vl.bo i)
  | [], _, h => by simp [ioIx] at h
  | _ :: _, [], h => by simp [ioIx] at h
  | true :: bs, .bo k :: rs, h => by
    have h' : i = k ∨ i ∈ ioIx bs rs := by simpa [ioIx] using h
    rcases h' with rfl | h'
    · exact ⟨0, rfl, rfl⟩
    · obtain ⟨j, h1, h2⟩ := ioIx_mem h'
      exact ⟨j + 1, by simpa using h1, by simpa using h2⟩
  | true :: bs, .im _ :: rs, h => by
    obtain ⟨j, h1, h2⟩ := ioIx_mem (sig := bs) (rs := rs) h
    exact ⟨j + 1, by simpa using h1, by simpa using h2⟩
  | true :: bs, .fr _ :: rs, h => by
    obtain ⟨j, h1, h2⟩ := ioIx_mem (sig := bs) (rs := rs) h
    exact ⟨j + 1, by simpa using h1, by simpa using h2⟩
  | false :: bs, .im _ :: rs, h => by
    obtain ⟨j, h1, h2⟩ := ioIx_mem (sig := bs) (rs := rs) h
    exact ⟨j + 1, by simpa using h1, by simpa using h2⟩
  | false :: bs, .fr _ :: rs, h => by
    obtain ⟨j, h1, h2⟩ := ioIx_mem (sig := bs) (rs := rs) h
    exact ⟨j + 1, by simpa using h1, by simpa using h2⟩
  | false :: bs, .bo _ :: rs, h => by
    obtain ⟨j, h1, h2⟩ := ioIx_mem (sig := bs) (rs := rs) h
    exact ⟨j + 1, by simpa using h1, by simpa using h2⟩
theorem mem_ioIx {i : Nat} : ∀ {sig : List Bool} {rs : List Vl} {j : Nat}, sig[j]? = some true → rs[j]? = some (.bo i) → i ∈ ioIx sig rs
  | [], _, _, h, _ => by simp at h
  | _ :: _, [], _, _, h => by simp at h
  | b :: bs, r :: rs, 0, h1, h2 => by
    simp at h1 h2
    subst h1 h2
    simp [ioIx]
  | b :: bs, r :: rs, j + 1, h1, h2 => by
    have ih := mem_ioIx (i := i) (sig := bs) (rs := rs) (j := j) (by simpa using h1) (by simpa using h2)
    cases b with
    | true =>
      cases r with
      | bo k => simp [ioIx, ih]
      | im _ => exact ih
      | fr _ => exact ih
    | false =>
      cases r with
      | bo k => exact ih
      | im _ => exact ih
      | fr _ => exact ih
/-- which place of the arguments a changed slot has: one alone -/
theorem ioIx_one {i : Nat} : ∀ {sig : List Bool} {rs : List Vl} {j k : Nat}, (ioIx sig rs).Nodup → sig[j]? = some true → rs[j]? = some (.bo i) → sig[k]? = some true → rs[k]? = some (.bo i) → j = k
  | [], _, _, _, _, h, _, _, _ => by simp at h
  | _ :: _, [], _, _, _, _, h, _, _ => by simp at h
  | b :: bs, r :: rs, 0, 0, _, _, _, _, _ => rfl
  | b :: bs, r :: rs, 0, k + 1, nd, h1, h2, h3, h4 => by
    simp at h1 h2
    subst h1 h2
    have m := mem_ioIx (i := i) (sig := bs) (rs := rs) (j := k) (by simpa using h3) (by simpa using h4)
    have nd' : i ∉ ioIx bs rs ∧ (ioIx bs rs).Nodup := by simpa [ioIx] using nd
    exact absurd m nd'.1
  | b :: bs, r :: rs, j + 1, 0, nd, h1, h2, h3, h4 => by
    simp at h3 h4
    subst h3 h4
    have m := mem_ioIx (i := i) (sig := bs) (rs := rs) (j := j) (by simpa using h1) (by simpa using h2)
    have nd' : i ∉ ioIx bs rs ∧ (ioIx bs rs).Nodup := by simpa [ioIx] using nd
    exact absurd m nd'.1
  | b :: bs, r :: rs, j + 1, k + 1, nd, h1, h2, h3, h4 => by
    have nd' : (ioIx bs rs).Nodup := by
      cases b with
      | true =>
        cases r with
        | bo q =>
          have z : q ∉ ioIx bs rs ∧ (ioIx bs rs).Nodup := by simpa [ioIx] using nd
          exact z.2
        | im _ => exact nd
        | fr _ => exact nd
      | false =>
        cases r with
        | bo q => exact nd
        | im _ => exact nd
        | fr _ => exact nd
    rw [ioIx_one nd' (j := j) (k := k) (by simpa using h1) (by simpa using h2) (by simpa using h3) (by simpa using h4)]
theorem updE_at {i : Nat} {d : D} : ∀ {sig : List Bool} {rs : List Vl} {ds : List D} {e : Env} {j : Nat}, (ioIx sig rs).Nodup → sig[j]? = some true → rs[j]? = some (.bo i) → ds[j]? = some d → (updE sig rs ds e)[i]? = (putC e i d)[i]?
  | [], _, _, _, _, _, h, _, _ => by simp at h
  | _ :: _, [], _, _, _, _, _, h, _ => by simp at h
  | _ :: _, _ :: _, [], _, _, _, _, _, h => by simp at h
  | b :: bs, r :: rs, d' :: ds, e, 0, nd, h1, h2, h3 => by
    simp at h1 h2 h3
    subst h1 h2 h3
    have nd' : i ∉ ioIx bs rs ∧ (ioIx bs rs).Nodup := by simpa [ioIx] using nd
    show (updE bs rs ds (putC e i d'))[i]? = _
    rw [updE_ne nd'.1]
  | b :: bs, r :: rs, d' :: ds, e, j + 1, nd, h1, h2, h3 => by
    have m := mem_ioIx (i := i) (sig := bs) (rs := rs) (j := j) (by simpa using h1) (by simpa using h2)
    cases b with
    | true =>
      cases r with
      | bo q =>
        have z : q ∉ ioIx bs rs ∧ (ioIx bs rs).Nodup := by simpa [ioIx] using nd
        show (updE bs rs ds (putC e q d'))[i]? = _
        rw [updE_at z.2 (j := j) (by simpa using h1) (by simpa using h2) (by simpa using h3)]
        have ne : q ≠ i := fun w => z.1 (w ▸ m)
        rw [putC_self, putC_self, putC_ne ne]
      | im _ => exact updE_at (sig := bs) (rs := rs) (ds := ds) (j := j) nd (by simpa using h1) (by simpa using h2) (by simpa using h3)
      | fr _ => exact updE_at (sig := bs) (rs := rs) (ds := ds) (j := j) nd (by simpa using h1) (by simpa using h2) (by simpa using h3)
    | false =>
      cases r with
      | bo q => exact updE_at (sig := bs) (rs := rs) (ds := ds) (j := j) nd (by simpa using h1) (by simpa using h2) (by simpa using h3)
      | im _ => exact updE_at (sig := bs) (rs := rs) (ds := ds) (j := j) nd (by simpa using h1) (by simpa using h2) (by simpa using h3)
      | fr _ => exact updE_at (sig := bs) (rs := rs) (ds := ds) (j := j) nd (by simpa using h1) (by simpa using h2) (by simpa using h3)
theorem ioAll_at {e : Env} : ∀ {sig : List Bool} {rs : List Vl} {j : Nat}, ioAll e sig rs = true → sig[j]? = some true → ∃ i, rs[j]? = some (.bo i) ∧ mutAt e i = true
  | [], [], _, _, h => by simp at h
  | [], _ :: _, _, h, _ => by simp [ioAll] at h
  | b :: bs, [], _, h, _ => by cases b <;> simp [ioAll] at h
  | b :: bs, r :: rs, 0, h, h1 => by
    simp at h1
    subst h1
    cases r with
    | bo i =>
      have h : mutAt e i = true ∧ ioAll e bs rs = true := by simpa [ioAll] using h
      exact ⟨i, rfl, h.1⟩
    | im _ => simp [ioAll] at h
    | fr _ => simp [ioAll] at h
  | b :: bs, r :: rs, j + 1, h, h1 => by
    have h2 : ioAll e bs rs = true := by
      cases b with
      | true =>
        cases r with
        | bo i =>
          have h : mutAt e i = true ∧ ioAll e bs rs = true := by simpa [ioAll] using h
          exact h.2
        | im _ => simp [ioAll] at h
        | fr _ => simp [ioAll] at h
      | false => simpa [ioAll] using h
    obtain ⟨i, h3, h4⟩ := ioAll_at h2 (j := j) (by simpa using h1)
    exact ⟨i, by simpa using h3, h4⟩
theorem ioAll_len {e : Env} : ∀ {sig : List Bool} {rs : List Vl}, ioAll e sig rs = true → sig.length = rs.length
  | [], [], _ => rfl
  | [], _ :: _, h => by simp [ioAll] at h
  | b :: bs, [], h => by cases b <;> simp [ioAll] at h
  | b :: bs, r :: rs, h => by
    have h2 : ioAll e bs rs = true := by
      cases b with
      | true =>
        cases r with
        | bo i =>
          have h : mutAt e i = true ∧ ioAll e bs rs = true := by simpa [ioAll] using h
          exact h.2
        | im _ => simp [ioAll] at h
        | fr _ => simp [ioAll] at h
      | false => simpa [ioAll] using h
    simp [ioAll_len h2]
theorem mem_brIx {e : Env} {i : Nat} : ∀ {sig : List Bool} {rs : List Vl} {j : Nat}, sig[j]? = some false → rs[j]? = some (.bo i) → mutAt e i = true → i ∈ brIx e sig rs
  | [], _, _, h, _, _ => by simp at h
  | _ :: _, [], _, _, h, _ => by simp at h
  | b :: bs, r :: rs, 0, h1, h2, h3 => by
    simp at h1 h2
    subst h1 h2
    simp [brIx, h3]
  | b :: bs, r :: rs, j + 1, h1, h2, h3 => by
    have ih := mem_brIx (e := e) (i := i) (sig := bs) (rs := rs) (j := j) (by simpa using h1) (by simpa using h2) h3
    cases b with
    | false =>
      cases r with
      | bo k =>
        show i ∈ (if mutAt e k = true then k :: brIx e bs rs else brIx e bs rs)
        split
        · exact List.mem_cons_of_mem _ ih
        · exact ih
      | im _ => exact ih
      | fr _ => exact ih
    | true =>
      cases r with
      | bo k => exact ih
      | im _ => exact ih
      | fr _ => exact ih
theorem cnts_get {e : Env} : ∀ {rs : List Vl} {ds : List D} {j : Nat} {r : Vl}, cnts e rs = some ds → rs[j]? = some r → ∃ d, ds[j]? = some d ∧ cnt e r = some d
  | [], _, _, _, _, h => by simp at h
  | r :: rs, ds, j, r', h, h1 => by
    unfold cnts at h
    split at h
    · rename_i d ds' e1 e2
      cases h
      cases j with
      | zero =>
        simp at h1
        subst h1
        exact ⟨d, rfl, e1⟩
      | succ j =>
        obtain ⟨d', h2, h3⟩ := cnts_get e2 (j := j) (by simpa using h1)
        exact ⟨d', by simpa using h2, h3⟩
    · cases h
theorem cnts_len {e : Env} : ∀ {rs : List Vl} {ds : List D}, cnts e rs = some ds → ds.length = rs.length
  | [], _, h => by
    cases h
    rfl
  | r :: rs, ds, h => by
    unfold cnts at h
    split at h
    · rename_i d ds' e1 e2
      cases h
      simp [cnts_len e2]
    · cases h
theorem paired_get {α β : Type} {R : α → β → Prop} : ∀ {as : List α} {bs : List β} {j : Nat} {a : α}, Paired R as bs → as[j]? = some a → ∃ b, bs[j]? = some b ∧ R a b
  | _, _, _, _, .nil, h => by simp at h
  | _, _, 0, _, .cons r _, h => by
    simp at h
    subst h
    exact ⟨_, rfl, r⟩
  | _, _, j + 1, a, .cons _ t, h => by
    obtain ⟨b, h1, h2⟩ := paired_get (j := j) (a := a) t (by simpa using h)
    exact ⟨b, by simpa using h1, h2⟩
theorem paired_getR {α β : Type} {R : α → β → Prop} : ∀ {as : List α} {bs : List β} {j : Nat} {b : β}, Paired R as bs → bs[j]? = some b → ∃ a, as[j]? = some a ∧ R a b
  | _, _, _, _, .nil, h => by simp at h
  | _, _, 0, _, .cons r _, h => by
    simp at h
    subst h
    exact ⟨_, rfl, r⟩
  | _, _, j + 1, a, .cons _ t, h => by
    obtain ⟨b, h1, h2⟩ := paired_getR (j := j) (b := a) t (by simpa using h)
    exact ⟨b, by simpa using h1, h2⟩
end PD
namespace PD
open PySem PySem.Spec PyProof.Rows L2

section
variable {K : PySem.W.Frag} {A : Anc} {B H : Hp} {σ τ : L2.St} {env pe : Env}
/-- the addresses of containers that are lent to a def for reading -/
def Lent (env : Env) (sig : List Bool) (rs : List Vl) (vs : List V) (a : Addr) : Prop := ∃ (j i : Nat), sig[j]? = some false ∧ rs[j]? = some (Vl.bo i) ∧ mutAt env i = true ∧ vs[j]? = some (V.ref a)
/-- the addresses of containers that a def may change -/
def ioOf (sig : List Bool) (vs : List V) (j : Nat) : Option Addr := if sig[j]? = some true then match vs[j]? with
    | some (.ref p) => some p
    | _ => none
  else none
open Classical in
theorem call_ok {F : Fs} {rs : List Vl} {vs : List V} {ds ds' : List D} {r : Vl} (S : SR K A B H (σ ++ τ) (env ++ pe)) (hl : σ.length = env.length) (hr : Paired (Hv K B σ) rs vs) (hc : cnts env rs = some ds)
    (hio : ioAll env F.sig rs = true) (hnd : (ioIx F.sig rs).Nodup) (hdj : ∀ i ∈ ioIx F.sig rs, i ∉ brIx env F.sig rs) (hf : F.sem ds = some (r, ds'))
    (hnm : brIx env F.sig rs = [] ∨ (r.nm = true ∧ ∀ (j : Nat) (d : D), F.sig[j]? = some true → ds'[j]? = some d → d.nmC = true)) (Q : VK)
    (q : ∀ B' H' v, Same B B' → VR K A B' H' σ τ (updE F.sig rs ds' env) pe r v → Q v H') (E : XK) : spF K F vs H Q E := by
  have lrv : rs.length = vs.length := Paired.length hr
  have lsr : F.sig.length = rs.length := ioAll_len hio
  have lds : ds.length = rs.length := cnts_len hc
  -- a slot that holds something to be changed
  have held : ∀ (i : Nat) (v : V), mutAt env i = true → σ[i]? = some (some v) → ∃ p sl d, v = .ref p ∧ env[i]? = some sl ∧ sl.mut = true ∧ cnt env (.bo i) = some d ∧ B p = none ∧ (A.H0 p = none ∨ A.isIo p) ∧ Cont K B d (H p) := by
    intro i v hm hv
    unfold mutAt at hm
    split at hm
    · rename_i sl he
      cases S.at hl he hv with
      | em => cases hm
      | im _ => cases hm
      | @ow d p b h0 c => exact ⟨p, _, d, rfl, he, rfl, by simp only [cnt, he], b, .inl h0, c⟩
      | @io d p j h c => exact ⟨p, _, d, rfl, he, rfl, by simp only [cnt, he], (S.iob p ⟨_, h⟩).1, .inr ⟨_, h⟩, c⟩
    · cases hm
  have lentC : ∀ a, Lent env F.sig rs vs a → ∃ i sl d, i ∈ brIx env F.sig rs ∧ σ[i]? = some (some (.ref a)) ∧ env[i]? = some sl ∧ sl.mut = true ∧ cnt env (.bo i) = some d ∧ B a = none ∧ (A.H0 a = none ∨ A.isIo a) ∧ Cont K B d (H a) := by
    rintro a ⟨j, i, h1, h2, h3, h4⟩
    obtain ⟨v', h5, h6⟩ := paired_get hr h2
    rw [h4] at h5
    cases h5
    have h6 : σ[i]? = some (some (V.ref a)) := h6
    obtain ⟨p, sl, d, e1, e2, e3, e4, e5, e6, e7⟩ := held i _ h3 h6
    cases e1
    exact ⟨i, sl, d, mem_brIx h1 h2 h3, h6, e2, e3, e4, e5, e6, e7⟩
  have ioC : ∀ j p, ioOf F.sig vs j = some p → ∃ i sl d, F.sig[j]? = some true ∧ rs[j]? = some (.bo i) ∧ vs[j]? = some (.ref p) ∧ i ∈ ioIx F.sig rs ∧ σ[i]? = some (some (.ref p)) ∧ env[i]? = some sl ∧ sl.mut = true ∧ ds[j]? = some d ∧ B p = none ∧ (A.H0 p = none ∨ A.isIo p) ∧ Cont K B d (H p) := by
    intro j p h
    unfold ioOf at h
    split at h
    · rename_i hs
      obtain ⟨i, h2, h3⟩ := ioAll_at hio hs
      obtain ⟨v', h5, h6⟩ := paired_get hr h2
      rw [h5] at h
      have h6 : σ[i]? = some (some v') := h6
      obtain ⟨p', sl, d, e1, e2, e3, e4, e5, e6, e7⟩ := held i _ h3 h6
      subst e1
      cases h
      obtain ⟨d', g1, g2⟩ := cnts_get hc h2
      rw [e4] at g2
      cases g2
      exact ⟨i, sl, d, hs, h2, h5, mem_ioIx hs h2, h6, e2, e3, g1, e5, e6, e7⟩
    · cases h
  have apart : ∀ (i i' : Nat) (p : Addr) (sl sl' : Sl), env[i]? = some sl → env[i']? = some sl' → sl.mut = true → sl'.mut = true → σ[i]? = some (some (.ref p)) → σ[i']? = some (some (.ref p)) → i = i' := fun i i' p sl sl' h1 h2 h3 h4 h5 h6 => by
    by_cases z : i = i'
    · exact z
    · refine (S.inj i i' p sl sl' z ?_ ?_ h3 h4 ?_ ?_).elim
      · rw [List.getElem?_append_left (List.getElem?_eq_some_iff.mp h1).1]; exact h1
      · rw [List.getElem?_append_left (List.getElem?_eq_some_iff.mp h2).1]; exact h2
      · rw [List.getElem?_append_left (List.getElem?_eq_some_iff.mp h5).1]; exact h5
      · rw [List.getElem?_append_left (List.getElem?_eq_some_iff.mp h6).1]; exact h6
  have ioNotLent : ∀ j p, ioOf F.sig vs j = some p → ¬ Lent env F.sig rs vs p := by
    intro j p h h'
    obtain ⟨i, sl, d, _, _, _, m, e1, e2, e3, _⟩ := ioC j p h
    obtain ⟨i', sl', d', m', f1, f2, f3, _⟩ := lentC p h'
    have := apart i i' p sl sl' e2 f2 e3 f3 e1 f1
    subst this
    exact hdj i m m'
  -- the callee's beginning
  let Bc : Hp := fun a => if Lent env F.sig rs vs a then H a else B a
  have BcL : ∀ a, Lent env F.sig rs vs a → Bc a = H a := fun a h => if_pos h
  have BcN : ∀ a, ¬ Lent env F.sig rs vs a → Bc a = B a := fun a h => if_neg h
  have sBc : Same B Bc := fun a o e => by
    by_cases h : Lent env F.sig rs vs a
    · obtain ⟨_, _, _, _, _, _, _, _, b, _⟩ := lentC a h
      rw [b] at e
      cases e
    · rw [BcN a h]
      exact e
  have sBH : Same Bc H := fun a o e => by
    by_cases h : Lent env F.sig rs vs a
    · rw [BcL a h] at e
      exact e
    · rw [BcN a h] at e
      exact S.same a o e
  let Ac : Anc := ⟨H, Bc, ioOf F.sig vs⟩
  have S0 : SR K Ac Bc H (vs.map some) (mkE 0 F.sig ds) := by
    refine ⟨by rw [List.length_map, mkE_length (by omega)]; omega, sBH, fun j sl ov e1 e2 => ?_, fun j j' p sl sl' ne e1 e2 m1 m2 e3 e4 => ?_, fun a o e _ => ⟨e, .inl rfl⟩, fun a ⟨j, h⟩ => ?_, fun a ⟨j, h⟩ => ?_⟩
    · obtain ⟨b, d, h1, h2, rfl⟩ := mkE_get e1
      rw [List.getElem?_map] at e2
      cases hv : vs[j]? with
      | none =>
        rw [hv] at e2
        cases e2
      | some v =>
        rw [hv] at e2
        cases e2
        obtain ⟨r', h3, h4⟩ := paired_getR hr hv
        obtain ⟨d', h5, h6⟩ := cnts_get hc h3
        rw [h2] at h5
        cases h5
        cases b with
        | true =>
          rw [if_pos rfl]
          obtain ⟨i, g1, g2⟩ := ioAll_at hio h1
          rw [h3] at g1
          cases g1
          have h4 : σ[i]? = some (some v) := h4
          obtain ⟨p, sl, d2, f1, f2, f3, f4, f5, f6, f7⟩ := held i v g2 h4
          subst f1
          rw [h6] at f4
          cases f4
          rw [Nat.zero_add]
          refine .io ?_ (f7.mono sBc)
          show ioOf F.sig vs j = some p
          unfold ioOf
          rw [if_pos h1, hv]
        | false =>
          rw [if_neg Bool.false_ne_true]
          cases r' with
          | im d2 =>
            cases h6
            have h4 : Rp K B d v := h4
            exact .im (h4.mono sBc)
          | fr d2 => exact h4.elim
          | bo i =>
            have h4 : σ[i]? = some (some v) := h4
            by_cases hm : mutAt env i = true
            · obtain ⟨p, sl, d2, f1, f2, f3, f4, f5, f6, f7⟩ := held i v hm h4
              subst f1
              rw [h6] at f4
              cases f4
              refine .im (f7.frozen sBc ?_)
              exact BcL p ⟨j, i, h1, h3, hm, hv⟩
            · have h6' := h6
              unfold cnt at h6'
              dsimp only at h6'
              split at h6'
              · rename_i d2 he
                cases h6'
                cases S.at hl he h4 with
                | im rr => exact .im (rr.mono sBc)
              · rename_i d2 he
                exact absurd (by unfold mutAt; rw [he]; rfl) hm
              · rename_i d2 he
                exact absurd (by unfold mutAt; rw [he]; rfl) hm
              · cases h6'
    · obtain ⟨b, d, h1, h2, rfl⟩ := mkE_get e1
      obtain ⟨b', d', h1', h2', rfl⟩ := mkE_get e2
      cases b with
      | false => cases m1
      | true =>
        cases b' with
        | false => cases m2
        | true =>
          have k1 : ioOf F.sig vs j = some p := by
            unfold ioOf
            rw [List.getElem?_map] at e3
            cases hv : vs[j]? with
            | none => rw [hv] at e3; cases e3
            | some v =>
              rw [hv] at e3
              cases e3
              rw [if_pos h1]
          have k2 : ioOf F.sig vs j' = some p := by
            unfold ioOf
            rw [List.getElem?_map] at e4
            cases hv : vs[j']? with
            | none => rw [hv] at e4; cases e4
            | some v =>
              rw [hv] at e4
              cases e4
              rw [if_pos h1']
          obtain ⟨i, sl, d3, x1, x2, x3, m, y1, y2, y3, _⟩ := ioC j p k1
          obtain ⟨i', sl', d4, x1', x2', x3', m', z1, z2, z3, _⟩ := ioC j' p k2
          have := apart i i' p sl sl' y2 z2 y3 z3 y1 z1
          subst this
          exact ne (ioIx_one hnd x1 x2 x1' x2')
    · obtain ⟨i, sl, d, _, _, _, m, e1, e2, e3, _, b, _, c⟩ := ioC j a h
      obtain ⟨o, ho⟩ := c.some
      rw [ho] at c
      exact ⟨by rw [BcN a (ioNotLent j a h)]; exact b, o, ho, c.nt⟩
    · obtain ⟨i, sl, d, _, _, _, m, e1, e2, e3, _, b, _, c⟩ := ioC j a h
      exact c.some
  refine ⟨Ac, Bc, ds, ds', r, rfl, rfl, S0, by omega, hf, fun B1 H1 v s1 hld R => ?_⟩
  -- what stands behind it, for the caller
  have S1 : SR K Ac B1 H1 (vs.map some) (mkE 0 F.sig ds') := by
    cases r with
    | im d => exact R.1
    | fr d => exact SR.front (σ2 := [some v]) (env2 := [.ow d]) R (by rw [List.length_map, mkE_length (by omega)]; omega)
    | bo i => exact R.elim
  let B2 : Hp := fun a => if Lent env F.sig rs vs a then none else B1 a
  have B2L : ∀ a, Lent env F.sig rs vs a → B2 a = none := fun a h => if_pos h
  have B2N : ∀ a, ¬ Lent env F.sig rs vs a → B2 a = B1 a := fun a h => if_neg h
  have sB2 : Same B B2 := fun a o e => by
    by_cases h : Lent env F.sig rs vs a
    · obtain ⟨_, _, _, _, _, _, _, _, b, _⟩ := lentC a h
      rw [b] at e
      cases e
    · rw [B2N a h]
      exact s1 a o (sBc a o e)
  have sB21 : Same B2 B1 := fun a o e => by
    by_cases h : Lent env F.sig rs vs a
    · rw [B2L a h] at e
      cases e
    · rw [B2N a h] at e
      exact e
  -- data without lists leans on nothing that was lent
  have tT : ∀ a o, TuO o → B1 a = some o → B2 a = some o := fun a x tu h => by
    by_cases hL : Lent env F.sig rs vs a
    · obtain ⟨i, sl, d, _, _, _, _, _, _, _, c⟩ := lentC a hL
      have hb : B1 a = H a := by
        obtain ⟨o, ho⟩ := c.some
        rw [ho]
        exact s1 a o (by rw [BcL a hL]; exact ho)
      rw [hb] at h
      rw [h] at c
      exact absurd tu c.nu
    · rw [B2N a hL]
      exact h
  have noL : brIx env F.sig rs = [] → ∀ a, ¬ Lent env F.sig rs vs a := fun e a h => by
    obtain ⟨i, _, _, m, _⟩ := lentC a h
    rw [e] at m
    cases m
  have eqB : brIx env F.sig rs = [] → B2 = B1 := fun e => funext fun a => B2N a (noL e a)
  have contIo : ∀ (j : Nat) (d : D) (o : Option HO), F.sig[j]? = some true → ds'[j]? = some d → Cont K B1 d o → Cont K B2 d o := fun j d o h1 h2 c => by
    rcases hnm with e | ⟨_, hn⟩
    · rw [eqB e]
      exact c
    · exact c.thaw tT (hn j d h1 h2)
  -- a container of the caller's that the def hasn't in hand
  have other : ∀ (p : Addr) (d : D), Cont K B d (H p) → (¬ ∃ j, ioOf F.sig vs j = some p) → H1 p = H p ∧ B1 p = Bc p := fun p d c n => by
    obtain ⟨o, ho⟩ := c.some
    obtain ⟨e1, e2⟩ := S1.anc p o ho n
    rw [ho] at c
    exact ⟨by rw [e1, ho], e2.resolve_right fun ⟨ts, z⟩ => c.nt ts z⟩
  have isIoC : ∀ p, (∃ j, ioOf F.sig vs j = some p) → ∃ (i j : Nat) (sl : Sl) (d' : D), i ∈ ioIx F.sig rs ∧ F.sig[j]? = some true ∧ rs[j]? = some (.bo i) ∧ σ[i]? = some (some (.ref p)) ∧ env[i]? = some sl ∧ sl.mut = true ∧ ds'[j]? = some d' ∧ Cont K B2 d' (H1 p) ∧ B2 p = none := by
    rintro p ⟨j, h⟩
    obtain ⟨i, sl, d, x1, x2, x3, m, y1, y2, y3, _, b, _, c⟩ := ioC j p h
    have hj : j < F.sig.length := (List.getElem?_eq_some_iff.mp x1).1
    have hd : ds'[j]? = some (ds'[j]'(by omega)) := List.getElem?_eq_getElem (by omega)
    have e1 := mkE_at (k := 0) x1 hd
    have e2 : (vs.map some)[j]? = some (some (V.ref p)) := by rw [List.getElem?_map, x3]; rfl
    have sl1 := S1.slot j _ _ e1 e2
    rw [if_pos rfl] at sl1
    cases sl1 with
    | io h' c' =>
      exact ⟨i, j, sl, _, m, x1, x2, y1, y2, y3, hd, contIo j _ _ x1 hd c', by rw [B2N p (ioNotLent j p h)]; exact (S1.iob p ⟨j, h⟩).1⟩
  have S2 : SR K A B2 H1 (σ ++ τ) (updE F.sig rs ds' env ++ pe) := by
    have lu : (updE F.sig rs ds' env).length = env.length := updE_length
    refine ⟨?_, fun a o e => S1.same a o (sB21 a o e), fun i sl ov e1 e2 => ?_, fun i i' p sl sl' ne e1 e2 m1 m2 e3 e4 => ?_, fun a o e n => ?_, fun a n => ?_, S.ioh⟩
    · have := S.len
      simp only [List.length_append] at this ⊢
      omega
    · -- what the caller's slot i had
      have old : ∃ sl0, (env ++ pe)[i]? = some sl0 ∧ (sl0 = sl ∨ (i ∈ ioIx F.sig rs ∧ i < env.length)) := by
        by_cases hi : i < env.length
        · by_cases hm : i ∈ ioIx F.sig rs
          · exact ⟨env[i], by rw [List.getElem?_append_left hi]; exact List.getElem?_eq_getElem hi, .inr ⟨hm, hi⟩⟩
          · rw [List.getElem?_append_left (by omega), updE_ne hm] at e1
            exact ⟨sl, by rw [List.getElem?_append_left hi]; exact e1, .inl rfl⟩
        · rw [List.getElem?_append_right (by omega), lu] at e1
          exact ⟨sl, by rw [List.getElem?_append_right (by omega)]; exact e1, .inl rfl⟩
      obtain ⟨sl0, h0, h1⟩ := old
      rcases h1 with rfl | ⟨hm, hi⟩
      · -- untouched
        by_cases hio2 : i ∈ ioIx F.sig rs ∧ i < env.length
        · obtain ⟨hm, hi⟩ := hio2
          obtain ⟨j, x1, x2⟩ := ioIx_mem hm
          obtain ⟨i2, y1, y2⟩ := ioAll_at hio x1
          rw [x2] at y1
          cases y1
          rw [List.getElem?_append_left (by omega)] at e2
          obtain ⟨v', z1, z2⟩ := paired_get hr x2
          have z2 : σ[i]? = some (some v') := z2
          rw [e2] at z2
          cases z2
          obtain ⟨p, sl2, d2, rfl, f2, f3, _⟩ := held i v' y2 e2
          have kj : ioOf F.sig vs j = some p := by
            unfold ioOf
            rw [if_pos x1, z1]
          obtain ⟨i3, j3, sl3, d3, w1, w2, w3, w4, w5, w6, w7, w8, w9⟩ := isIoC p ⟨j, kj⟩
          have := apart i i3 p sl2 sl3 f2 w5 f3 w6 e2 w4
          subst this
          have ej := ioIx_one hnd x1 x2 w2 w3
          subst ej
          rw [List.getElem?_append_left (by omega), updE_at hnd x1 x2 w7, putC_self] at e1
          rw [f2] at e1
          cases sl2 with
          | em => cases f3
          | im _ => cases f3
          | ow d4 =>
            cases e1
            cases S.at hl f2 e2 with
            | ow b0 h00 c0 => exact .ow w9 h00 w8
          | io k d4 =>
            cases e1
            cases S.at hl f2 e2 with
            | io h00 c0 => exact .io h00 w8
        · have s := S.slot i _ ov h0 e2
          cases s with
          | em => exact .em
          | im rr => exact .im (rr.mono sB2)
          | @ow d p b h00 c =>
            have n : ¬ ∃ j, ioOf F.sig vs j = some p := fun z => by
              obtain ⟨i3, j3, sl3, d3, w1, w2, w3, w4, w5, w6, w7, w8, w9⟩ := isIoC p z
              have h5 : (env ++ pe)[i3]? = some sl3 := by
                rw [List.getElem?_append_left (List.getElem?_eq_some_iff.mp w5).1]; exact w5
              have h6 : (σ ++ τ)[i3]? = some (some (V.ref p)) := by
                rw [List.getElem?_append_left (List.getElem?_eq_some_iff.mp w4).1]; exact w4
              by_cases q2 : i = i3
              · subst q2
                exact hio2 ⟨w1, (List.getElem?_eq_some_iff.mp w5).1⟩
              · exact S.inj i i3 p _ sl3 q2 h0 h5 rfl w6 e2 h6
            obtain ⟨g1, g2⟩ := other p d c n
            refine .ow ?_ h00 (by rw [g1]; exact c.mono sB2)
            by_cases hL : Lent env F.sig rs vs p
            · exact B2L p hL
            · rw [B2N p hL, g2, BcN p hL]
              exact b
          | @io d p k h00 c =>
            have n : ¬ ∃ j, ioOf F.sig vs j = some p := fun z => by
              obtain ⟨i3, j3, sl3, d3, w1, w2, w3, w4, w5, w6, w7, w8, w9⟩ := isIoC p z
              have h5 : (env ++ pe)[i3]? = some sl3 := by
                rw [List.getElem?_append_left (List.getElem?_eq_some_iff.mp w5).1]; exact w5
              have h6 : (σ ++ τ)[i3]? = some (some (V.ref p)) := by
                rw [List.getElem?_append_left (List.getElem?_eq_some_iff.mp w4).1]; exact w4
              by_cases q2 : i = i3
              · subst q2
                exact hio2 ⟨w1, (List.getElem?_eq_some_iff.mp w5).1⟩
              · exact S.inj i i3 p _ sl3 q2 h0 h5 rfl w6 e2 h6
            obtain ⟨g1, g2⟩ := other p d c n
            exact .io h00 (by rw [g1]; exact c.mono sB2)
      · obtain ⟨j, x1, x2⟩ := ioIx_mem hm
        obtain ⟨i2, y1, y2⟩ := ioAll_at hio x1
        rw [x2] at y1
        cases y1
        rw [List.getElem?_append_left (by omega)] at e2
        obtain ⟨v', z1, z2⟩ := paired_get hr x2
        have z2 : σ[i]? = some (some v') := z2
        rw [e2] at z2
        cases z2
        obtain ⟨p, sl2, d2, rfl, f2, f3, _⟩ := held i v' y2 e2
        have kj : ioOf F.sig vs j = some p := by
          unfold ioOf
          rw [if_pos x1, z1]
        obtain ⟨i3, j3, sl3, d3, w1, w2, w3, w4, w5, w6, w7, w8, w9⟩ := isIoC p ⟨j, kj⟩
        have := apart i i3 p sl2 sl3 f2 w5 f3 w6 e2 w4
        subst this
        have ej := ioIx_one hnd x1 x2 w2 w3
        subst ej
        rw [List.getElem?_append_left (by omega), updE_at hnd x1 x2 w7, putC_self] at e1
        rw [f2] at e1
        cases sl2 with
        | em => cases f3
        | im _ => cases f3
        | ow d4 =>
          cases e1
          cases S.at hl f2 e2 with
          | ow b0 h00 c0 => exact .ow w9 h00 w8
        | io k d4 =>
          cases e1
          cases S.at hl f2 e2 with
          | io h00 c0 => exact .io h00 w8
    · -- no two hold one
      have old : ∀ (i : Nat) (sl : Sl), (updE F.sig rs ds' env ++ pe)[i]? = some sl → sl.mut = true → ∃ sl0 : Sl, (env ++ pe)[i]? = some sl0 ∧ sl0.mut = true := fun i sl e m => by
        by_cases hi : i < env.length
        · rw [List.getElem?_append_left (by omega)] at e
          by_cases hm : i ∈ ioIx F.sig rs
          · obtain ⟨j, x1, x2⟩ := ioIx_mem hm
            obtain ⟨i2, y1, y2⟩ := ioAll_at hio x1
            rw [x2] at y1
            cases y1
            unfold mutAt at y2
            split at y2
            · rename_i sl0 he
              exact ⟨sl0, by rw [List.getElem?_append_left hi]; exact he, y2⟩
            · cases y2
          · rw [updE_ne hm] at e
            exact ⟨sl, by rw [List.getElem?_append_left hi]; exact e, m⟩
        · rw [List.getElem?_append_right (by omega), lu] at e
          exact ⟨sl, by rw [List.getElem?_append_right (by omega)]; exact e, m⟩
      obtain ⟨s0, a1, a2⟩ := old i sl e1 m1
      obtain ⟨s0', b1, b2⟩ := old i' sl' e2 m2
      exact S.inj i i' p s0 s0' ne a1 b1 a2 b2 e3 e4
    · obtain ⟨h1, h2⟩ := S.anc a o e n
      have ni : ¬ ∃ j, ioOf F.sig vs j = some a := fun ⟨j, z⟩ => by
        obtain ⟨_, _, _, _, _, _, _, _, _, _, _, _, h3, _⟩ := ioC j a z
        rcases h3 with h3 | h3
        · rw [h3] at e
          cases e
        · exact n h3
      have nL : ¬ Lent env F.sig rs vs a := fun z => by
        obtain ⟨_, _, _, _, _, _, _, _, _, h3, _⟩ := lentC a z
        rcases h3 with h3 | h3
        · rw [h3] at e
          cases e
        · exact n h3
      obtain ⟨g1, g2⟩ := S1.anc a o h1 ni
      rcases g2 with g2 | g2
      · refine ⟨g1, ?_⟩
        rw [B2N a nL, g2]
        show Bc a = _ ∨ _
        rw [BcN a nL]
        exact h2
      · exact ⟨g1, .inr g2⟩
    · obtain ⟨b0, o, ho, nt⟩ := S.iob a n
      by_cases hL : Lent env F.sig rs vs a
      · have ni : ¬ ∃ j, ioOf F.sig vs j = some a := fun ⟨j, z⟩ => ioNotLent j a z hL
        obtain ⟨g1, g2⟩ := S1.anc a o ho ni
        exact ⟨B2L a hL, o, g1, nt⟩
      · rw [B2N a hL]
        by_cases hI : ∃ j, ioOf F.sig vs j = some a
        · exact S1.iob a hI
        · obtain ⟨g1, g2⟩ := S1.anc a o ho hI
          refine ⟨?_, o, g1, nt⟩
          rw [g2.resolve_right fun ⟨ts, z⟩ => nt ts z]
          show Bc a = none
          rw [BcN a hL]
          exact b0
  cases r with
  | bo i => exact R.elim
  | im d =>
    refine q B2 H1 v sB2 ⟨S2, ?_⟩
    rcases hnm with e | ⟨hn, _⟩
    · rw [eqB e]
      exact R.2
    · exact R.2.thaw tT hn
  | fr d =>
    have R : SR K Ac B1 H1 (vs.map some ++ [some v]) (mkE 0 F.sig ds' ++ [.ow d]) := R
    have lm : (mkE 0 F.sig ds').length = vs.length := by rw [mkE_length (by omega)]; omega
    have e1 : (mkE 0 F.sig ds' ++ [Sl.ow d])[vs.length]? = some (.ow d) := by
      rw [← lm]
      simp
    have e2 : (vs.map some ++ [some v])[vs.length]? = some (some v) := by
      rw [List.getElem?_append_right (by simp)]
      simp
    cases R.slot _ _ _ e1 e2 with
    | @ow _ p b h0 c =>
      have hp : H p = none := h0
      obtain ⟨bp, a0, nio⟩ := S.new hp
      have nL : ¬ Lent env F.sig rs vs p := fun z => by
        obtain ⟨_, _, _, _, _, _, _, _, _, _, c2⟩ := lentC p z
        rw [hp] at c2
        cases c2
      have c2 : Cont K B2 d (H1 p) := by
        rcases hnm with e | ⟨hn, _⟩
        · rw [eqB e]
          exact c
        · exact c.thaw tT hn
      refine q B2 H1 (.ref p) sB2 ?_
      show SR K A B2 H1 (σ ++ τ ++ [some (.ref p)]) (updE F.sig rs ds' env ++ pe ++ [.ow d])
      have ln : (σ ++ τ).length = (updE F.sig rs ds' env ++ pe).length := S2.len
      -- no slot of the caller's holds p
      have no : ∀ (i : Nat) (sl : Sl), (updE F.sig rs ds' env ++ pe)[i]? = some sl → sl.mut = true → (σ ++ τ)[i]? ≠ some (some (.ref p)) := fun i sl e m z => by
        by_cases hi : i < env.length
        · have lu : (updE F.sig rs ds' env).length = env.length := updE_length
          rw [List.getElem?_append_left (by omega)] at e z
          by_cases hm : i ∈ ioIx F.sig rs
          · obtain ⟨j, x1, x2⟩ := ioIx_mem hm
            obtain ⟨i2, y1, y2⟩ := ioAll_at hio x1
            rw [x2] at y1
            cases y1
            obtain ⟨p', sl2, d2, f1, f2, f3, f4, f5, f6, f7⟩ := held i _ y2 z
            cases f1
            rw [hp] at f7
            cases f7
          · rw [updE_ne hm] at e
            obtain ⟨p', d2, o, f1, _, f2, _⟩ := (S.at hl e z).held m
            cases f1
            rw [hp] at f2
            cases f2
        · have lu : (updE F.sig rs ds' env).length = env.length := updE_length
          rw [List.getElem?_append_right (by omega), lu] at e
          have e' : (env ++ pe)[i]? = some sl := by rw [List.getElem?_append_right (by omega)]; exact e
          obtain ⟨p', d2, o, f1, _, f2, _⟩ := (S.slot i sl _ e' z).held m
          cases f1
          rw [hp] at f2
          cases f2
      refine ⟨by simp only [List.length_append, List.length_cons, List.length_nil] at ln ⊢; omega, S2.same, fun i sl ov g1 g2 => ?_, fun i i' p' sl sl' ne g1 g2 m1 m2 g3 g4 => ?_, S2.anc, S2.iob, S2.ioh⟩
      · rcases getE_snoc g1 with ⟨hi, g1⟩ | ⟨hi, rfl⟩
        · rw [List.getElem?_append_left (by rw [ln]; exact hi)] at g2
          exact S2.slot i sl ov g1 g2
        · rw [hi, ← ln] at g2
          have : ov = some (.ref p) := by simpa using g2.symm
          subst this
          exact .ow (by rw [B2N p nL]; exact b) a0 c2
      · rcases getE_snoc g1 with ⟨hi, g1⟩ | ⟨hi, rfl⟩
        · rw [List.getElem?_append_left (by rw [ln]; exact hi)] at g3
          rcases getE_snoc g2 with ⟨hi', g2⟩ | ⟨hi', rfl⟩
          · rw [List.getElem?_append_left (by rw [ln]; exact hi')] at g4
            exact S2.inj i i' p' sl sl' ne g1 g2 m1 m2 g3 g4
          · rw [hi', ← ln] at g4
            have : V.ref p = V.ref p' := by simpa using g4
            cases this
            exact no i sl g1 m1 g3
        · rw [hi, ← ln] at g3
          have : V.ref p = V.ref p' := by simpa using g3
          cases this
          rcases getE_snoc g2 with ⟨hi', g2⟩ | ⟨hi', rfl⟩
          · rw [List.getElem?_append_left (by rw [ln]; exact hi')] at g4
            exact no i' sl' g2 m2 g4
          · exact ne (hi.trans hi'.symm)
end
end PD
namespace PD
open PySem PySem.Spec PyProof.Rows L2

/-! ### where code stands -/
structure G0 where
  P : Program
  w : World
  K : PySem.W.Frag
  mg : Str → Option Value
  base : Heap
structure Ct where
  N : List Str
  sc : Scope
  fb : Str → Bool
  k : Nat
structure Cok (g : G0) (c : Ct) (X : Cx) : Prop where
  eP : X.prog = g.P
  ew : X.w = g.w
  eK : X.K = g.K
  em : X.mg = g.mg
  eb : X.base = g.base
  eN : X.N = c.N
  es : X.env.scope = c.sc
  calm : X.calm = true
  nd : X.N.Nodup
  fn : ∀ x, c.fb x = true → X.fn x = true
  room : Room c.k X.A
  gu : X.A.guards = some []
  xe : X.xe = fun _ _ => False
def Ct.blk (c : Ct) (scope : Scope) : Ct := ⟨c.N, relS scope c.sc, fun x => scope.names.lookup x == some .cell, c.k⟩
theorem Cok.blk {g : G0} {c : Ct} {X : Cx} (h : Cok g c X) (scope : Scope) (s : Shared) (H : Hp) (C : Addr) (cl : List (Str × Addr)) (fp : List Addr) :
    Cok g (c.blk scope) (X.blk s H scope (compEnvC scope cl C X.env) fp) := by
  refine ⟨h.eP, h.ew, h.eK, h.em, h.eb, h.eN, ?_, h.calm, h.nd, fun _ z => z, h.room, h.gu, rfl⟩
  show (compEnvC scope cl C X.env).scope = relS scope c.sc
  rw [← h.es]
  rfl

section
variable (g : G0) (c : Ct)
/-- the expression e does m -/
def EE (e : Expr) (m : M Vl) : Prop := ∃ t, (∀ X, Cok g c X → PE X e t) ∧ ∀ A, SEX g.K A t m
def ET (e : Expr) (m : M Bool) : Prop := ∃ t, (∀ X, Cok g c X → PT X e t) ∧ ∀ A, STX g.K A t m
def EW (e : Expr) (m : M Bool) : Prop := ∃ t, (∀ X, Cok g c X → PW X e t) ∧ ∀ A, STX g.K A t m
def EA (es : List Expr) (m : M (List Vl)) : Prop := ∃ t, (∀ X, Cok g c X → PA X es t) ∧ ∀ A, SAX g.K A t m
def EG (e : Expr) (ts : List Nat) (m : Vl → M Unit) : Prop := ∃ t, (∀ X, Cok g c X → PG X e t) ∧ ∀ A, SGX g.K A ts t m
def EGs (es : List Expr) (ts : List Nat) (m : List D → M Unit) : Prop := ∃ t, (∀ X, Cok g c X → PGs X es t) ∧ ∀ A, SGsX g.K A ts t m
def EI (tg e : Expr) (m : M (List D)) : Prop := ∃ t, (∀ X, Cok g c X → PI X tg e t) ∧ ∀ A, SIX g.K A t m
def ES (s : Stmt) (m : SM) : Prop := ∃ t, (∀ X, Cok g c X → PS X s t) ∧ ∀ A, SSX g.K A t m
def ESs (s : List Stmt) (m : SM) : Prop := ∃ t, (∀ X, Cok g c X → PSs X s t) ∧ ∀ A, SSX g.K A t m
end
/-- not starred -/
def Pl (e : Expr) : Prop := ∀ (es : List Expr) (env : PySem.Env), starEach (e :: es) env = (false, eval e env) :: starEach es env

section
variable {g : G0} {c : Ct} {e a b : Expr} {es : List Expr} {pos p : Pos} {m ma mb : M Vl} {ms : M (List Vl)} {mt mu : M Bool}
theorem ea_nil : EA g c [] cN := ⟨_, fun _ _ => pa_nil, fun _ => sa_nil⟩
theorem ea_cons (h : EE g c e m) (hs : EA g c es ms) (pl : Pl e) : EA g c (e :: es) (cA m ms) := by
  obtain ⟨t, h1, h2⟩ := h
  obtain ⟨u, h3, h4⟩ := hs
  exact ⟨_, fun X hX => pa_cons (h1 X hX) (h3 X hX) (pl es X.env), fun A => sa_cons (h2 A) (h4 A)⟩
theorem ee_var {i : Nat} {x : Str} (hN : c.N[i]? = some x) (hv : Vis c.sc x) (hd : (x == ("__debug__" : Str)) = false) (hcd : (x == ("__classdict__" : Str)) = false) : EE g c (.Name x pos) (eV i) :=
  ⟨_, fun X hX => pe_var (by rw [hX.eN]; exact hN) (by rw [hX.es]; exact hv) hd hcd, fun _ => sx_var⟩
theorem ee_int {i : Int} {j} : EE g c (.Constant (.int i) j pos) (eC (.int i)) := ⟨_, fun _ _ => pe_int, fun _ => sx_con fun _ => .int i⟩
theorem ee_bl {v : Bool} {j} : EE g c (.Constant (.bool v) j pos) (eC (.bl v)) := ⟨_, fun _ _ => pe_bl, fun _ => sx_con fun _ => .bl v⟩
theorem ee_non {j} : EE g c (.Constant .none j pos) (eC .non) := ⟨_, fun _ _ => pe_non, fun _ => sx_con fun _ => .non⟩
theorem ee_str {x : Str} {j} (h : PyData.strOk x = true) : EE g c (.Constant (.str x) j pos) (eC (.str x)) := ⟨_, fun _ _ => pe_str, fun _ => sx_con fun _ => .str x h⟩
/-- a global name of the def -/
def GlC (c : Ct) (x : Str) : Prop := c.sc.names.lookup x = some .globalImplicit
theorem gl_of {X : Cx} {x : Str} (hX : Cok g c X) (h : GlC c x) : Gl X x := by
  show X.env.scope.names.lookup x = _
  rw [hX.es]
  exact h
/-- a constant of a module -/
theorem ee_glob {x : Str} {d : D} {v : V} {u : Value} (hg : GlC c x) (hm : g.mg x = some u) (r : RelV v u) (hd : ∀ B, Rp g.K B d v) (hdb : (x == ("__debug__" : Str)) = false) : EE g c (.Name x pos) (eC d) :=
  ⟨_, fun X hX => pe_glob (gl_of hX hg) (by rw [hX.em]; exact hm) r hdb, fun _ => sx_con hd⟩

/-! ### tests -/
theorem et_val (h : EE g c e m) (he : ∀ (env : PySem.Env) whole, isTrue e env whole = (do let v ← whole; standAt e.pos; holding [v] (truthy v))) : ET g c e (mB m) := by
  obtain ⟨t, h1, h2⟩ := h
  exact ⟨_, fun X hX => pt_val (h1 X hX) (he X.env), fun A => st_val (h2 A)⟩
theorem et_not (h : ET g c e mt) : ET g c (.UnaryOp .Not e pos) (mNot mt) := by
  obtain ⟨t, h1, h2⟩ := h
  exact ⟨_, fun X hX => pt_not (h1 X hX), fun A => st_not (h2 A)⟩
theorem et_w (h : EW g c e mt) : ET g c e mt := by
  obtain ⟨t, h1, h2⟩ := h
  exact ⟨t, fun X hX => (h1 X hX).pt, h2⟩
theorem ew_and1 (h : ET g c e mt) : EW g c (.BoolOp .And [e] pos) mt := by
  obtain ⟨t, h1, h2⟩ := h
  exact ⟨_, fun X hX => pw_and1 (h1 X hX), h2⟩
theorem ew_or1 (h : ET g c e mt) : EW g c (.BoolOp .Or [e] pos) mt := by
  obtain ⟨t, h1, h2⟩ := h
  exact ⟨_, fun X hX => pw_or1 (h1 X hX), h2⟩
theorem ew_and (h : ET g c a mt) (h' : EW g c (.BoolOp .And (b :: es) pos) mu) : EW g c (.BoolOp .And (a :: b :: es) pos) (mAnd mt mu) := by
  obtain ⟨t, h1, h2⟩ := h
  obtain ⟨u, h3, h4⟩ := h'
  exact ⟨_, fun X hX => pw_and (h1 X hX) (h3 X hX), fun A => st_and (h2 A) (h4 A)⟩
theorem ew_or (h : ET g c a mt) (h' : EW g c (.BoolOp .Or (b :: es) pos) mu) : EW g c (.BoolOp .Or (a :: b :: es) pos) (mOr mt mu) := by
  obtain ⟨t, h1, h2⟩ := h
  obtain ⟨u, h3, h4⟩ := h'
  exact ⟨_, fun X hX => pw_or (h1 X hX) (h3 X hX), fun A => st_or (h2 A) (h4 A)⟩
theorem ee_not (h : EE g c e m) : EE g c (.UnaryOp .Not e pos) (eNot m) := by
  obtain ⟨t, h1, h2⟩ := h
  exact ⟨_, fun X hX => pe_not (h1 X hX), fun A => sx_not (h2 A)⟩
theorem ee_one {op} (h : EE g c e m) : EE g c (.BoolOp op [e] pos) m := by
  obtain ⟨t, h1, h2⟩ := h
  exact ⟨_, fun X hX => pe_one (h1 X hX), h2⟩
theorem ee_and (h : EE g c a ma) (h' : EE g c (.BoolOp .And (b :: es) pos) mb) : EE g c (.BoolOp .And (a :: b :: es) pos) (eAnd ma mb) := by
  obtain ⟨t, h1, h2⟩ := h
  obtain ⟨u, h3, h4⟩ := h'
  exact ⟨_, fun X hX => pe_and (h1 X hX) (h3 X hX), fun A => sx_and (h2 A) (h4 A)⟩
theorem ee_or (h : EE g c a ma) (h' : EE g c (.BoolOp .Or (b :: es) pos) mb) : EE g c (.BoolOp .Or (a :: b :: es) pos) (eOr ma mb) := by
  obtain ⟨t, h1, h2⟩ := h
  obtain ⟨u, h3, h4⟩ := h'
  exact ⟨_, fun X hX => pe_or (h1 X hX) (h3 X hX), fun A => sx_or (h2 A) (h4 A)⟩
theorem ee_if (hc : ET g c e mt) (h : EE g c a ma) (h' : EE g c b mb) : EE g c (.IfExp e a b pos) (eIf mt ma mb) := by
  obtain ⟨t, h1, h2⟩ := hc
  obtain ⟨u, h3, h4⟩ := h
  obtain ⟨v, h5, h6⟩ := h'
  exact ⟨_, fun X hX => pe_ifExp (h1 X hX) (h3 X hX) (h5 X hX), fun A => sx_if (h2 A) (h4 A) (h6 A)⟩
theorem ee_tup {x1} (h : EA g c es ms) : EE g c (.Tuple es x1 pos) (eTup ms) := by
  obtain ⟨t, h1, h2⟩ := h
  exact ⟨_, fun X hX => pe_tup (h1 X hX), fun A => sx_tup (h2 A)⟩
theorem ee_lst (h : EA g c es ms) : EE g c (.List es pos) (eLst ms) := by
  obtain ⟨t, h1, h2⟩ := h
  exact ⟨_, fun X hX => pe_lst (h1 X hX), fun A => sx_lst (h2 A)⟩

/-! ### steps by values, in general: r by the written part alone -/
def OpI (g : G0) (op : Value → Value → Sem Value) (f : List D → Option Vl) : Prop := ∃ r : R2, (∀ c X, Cok g c X → OpR X op r) ∧ PrS g.K (on2 r) f
theorem ee_bin {op : Operator} {f : List D → Option Vl} (ho : OpI g (binaryOp op) f) (h : EE g c a ma) (h' : EE g c b mb) : EE g c (.BinOp a op b pos) (eP f (cA ma (cA mb cN))) := by
  obtain ⟨r, o1, o2⟩ := ho
  obtain ⟨t, h1, h2⟩ := h
  obtain ⟨u, h3, h4⟩ := h'
  exact ⟨_, fun X hX => pe_op (o1 c X hX) (h1 X hX) (h3 X hX), fun A => sx_op o2 (h2 A) (h4 A)⟩
theorem ee_cmp {op : CmpOp} {f : List D → Option Vl} (ho : OpI g (compareOp op) f) (h : EE g c a ma) (h' : EE g c b mb) (hm : behindInMarks op b = false) : EE g c (.Compare a [op] [b] pos) (eP f (cA ma (cA mb cN))) := by
  obtain ⟨r, o1, o2⟩ := ho
  obtain ⟨t, h1, h2⟩ := h
  obtain ⟨u, h3, h4⟩ := h'
  exact ⟨_, fun X hX => pe_cmpR (o1 c X hX) (h1 X hX) (h3 X hX) hm, fun A => sx_op o2 (h2 A) (h4 A)⟩
def UnI (g : G0) (op : Value → Sem Value) (f : List D → Option Vl) : Prop := ∃ r : V → Hp → VK → Prop, (∀ c X, Cok g c X → UnR X op r) ∧ PrS g.K (on1 r) f
theorem ee_un {op : UnaryOp} {f : List D → Option Vl} (ho : UnI g (unaryOp op) f) (h : EE g c a ma) : EE g c (.UnaryOp op a pos) (eP f (cA ma cN)) := by
  obtain ⟨r, o1, o2⟩ := ho
  obtain ⟨t, h1, h2⟩ := h
  exact ⟨_, fun X hX => pe_un (o1 c X hX) (h1 X hX), fun A => sx_un o2 (h2 A)⟩
def CaI (g : G0) (f : Value) (d : List D → Option Vl) : Prop := ∃ r : List V → Hp → VK → Prop, (∀ c X, Cok g c X → CallR X f r) ∧ PrS g.K r d
theorem ee_callB {x : Str} {id : String} {d : List D → Option Vl} (ho : CaI g (.builtin id) d) (hg : GlC c x) (hm : g.mg x = none) (hv : bootBuiltins x = some (.builtin id)) (h : EA g c (e :: es) ms) (pl : Pl e)
    (hpl : ∀ env : PySem.Env, (backTo pos (starEach es env)).any (·.1) = false) (hn : x ≠ "__name__") (hdb : (x == ("__debug__" : Str)) = false) : EE g c (.Call (.Name x p) (e :: es) [] pos) (eP d ms) := by
  obtain ⟨r, o1, o2⟩ := ho
  obtain ⟨t, h1, h2⟩ := h
  exact ⟨_, fun X hX => pe_callB (o1 c X hX) (gl_of hX hg) (by rw [hX.em]; exact hm) hv (h1 X hX) hn hdb (pl es X.env) (hpl X.env), fun A => sx_prim o2 (h2 A)⟩
theorem ee_callTy {x : Str} {T : String} {d : List D → Option Vl} (ho : CaI g (.type T) d) (hg : GlC c x) (hm : g.mg x = none) (hv : bootBuiltins x = some (.type T)) (h : EA g c (e :: es) ms) (pl : Pl e)
    (hpl : ∀ env : PySem.Env, (backTo pos (starEach es env)).any (·.1) = false) (hn : x ≠ "__name__") (hdb : (x == ("__debug__" : Str)) = false) : EE g c (.Call (.Name x p) (e :: es) [] pos) (eP d ms) := by
  obtain ⟨r, o1, o2⟩ := ho
  obtain ⟨t, h1, h2⟩ := h
  exact ⟨_, fun X hX => pe_callTy (o1 c X hX) (gl_of hX hg) (by rw [hX.em]; exact hm) hv (h1 X hX) hn hdb (pl es X.env) (hpl X.env), fun A => sx_prim o2 (h2 A)⟩

/-! ### statements -/
theorem es_nil : ESs g c [] sNil := ⟨_, fun _ _ => pss_nil, fun _ => ss_nil⟩
theorem es_cons {s : Stmt} {r : List Stmt} {m n : SM} (h : ES g c s m) (h' : ESs g c r n) : ESs g c (s :: r) (sSeq m n) := by
  obtain ⟨t, h1, h2⟩ := h
  obtain ⟨u, h3, h4⟩ := h'
  exact ⟨_, fun X hX => pss_cons (h1 X hX) (h3 X hX), fun A => ss_seq (h2 A) (h4 A)⟩
theorem es_one {s : Stmt} {m : SM} (h : ES g c s m) : ESs g c [s] m := by
  obtain ⟨t, h1, h2⟩ := h
  exact ⟨_, fun X hX => pss_one (h1 X hX), h2⟩
theorem es_pass : ES g c (.Pass pos) sPass := ⟨_, fun _ _ => ps_pass, fun _ => ss_pass⟩
theorem es_brk : ES g c (.Break pos) sBrk := ⟨_, fun _ _ => ps_break, fun _ => ss_brk⟩
theorem es_cnt : ES g c (.Continue pos) sCnt := ⟨_, fun _ _ => ps_continue, fun _ => ss_cnt⟩
theorem es_ret (h : EE g c e m) : ES g c (.Return (some e) pos) (sRet m) := by
  obtain ⟨t, h1, h2⟩ := h
  exact ⟨_, fun X hX => ps_ret (h1 X hX), fun A => ss_ret (h2 A)⟩
theorem es_retN : ES g c (.Return none pos) sRetN := ⟨_, fun _ _ => ps_retN, fun _ => ss_retN⟩
theorem es_exp (h : EE g c e m) (hs : ∀ env : PySem.Env, swapsWith e none pos.line env = pure false) : ES g c (.Expr e pos) (sExp m) := by
  obtain ⟨t, h1, h2⟩ := h
  exact ⟨_, fun X hX => ps_expr (h1 X hX) (hs X.env), fun A => ss_exp (h2 A)⟩
theorem es_if {s r : List Stmt} {m n : SM} (hc : ET g c e mt) (h : ESs g c s m) (h' : ESs g c r n) : ES g c (.If e s r pos) (sIf mt m n) := by
  obtain ⟨t, h1, h2⟩ := hc
  obtain ⟨u, h3, h4⟩ := h
  obtain ⟨v, h5, h6⟩ := h'
  exact ⟨_, fun X hX => ps_if (h1 X hX) (h3 X hX) (h5 X hX), fun A => ss_if (h2 A) (h4 A) (h6 A)⟩
theorem pown {X : Cx} (hX : Cok g c X) : PassesOwn (model X.prog X.w) X.A X.env X.xe := by
  rw [hX.xe]
  exact PassesOwn.never
theorem es_whl {s : List Stmt} {m : SM} (n : Nat) (hc : ET g c e mt) (h : ESs g c s m) : ES g c (.While e s [] pos) (sWhl n mt m) := by
  obtain ⟨t, h1, h2⟩ := hc
  obtain ⟨u, h3, h4⟩ := h
  exact ⟨_, fun X hX => ps_while (pown hX) (h1 X hX) (h3 X hX), fun A => ss_whl (h2 A) (h4 A)⟩
theorem es_for {tg : Expr} {s : List Stmt} {ts : List Nat} {mi : M (List D)} {gg : Vl → M Unit} {m : SM} (hi : EI g c tg e mi) (hg : EG g c tg ts gg) (h : ESs g c s m) (hs : ∀ (env : PySem.Env) x, foldedSetIterable e env x = pure x) :
    ES g c (.For tg e s [] pos) (sFor mi gg m) := by
  obtain ⟨t, h1, h2⟩ := hi
  obtain ⟨u, h3, h4⟩ := hg
  obtain ⟨v, h5, h6⟩ := h
  exact ⟨_, fun X hX => ps_for (pown hX) hX.calm (h1 X hX) (h3 X hX) (h5 X hX) (hs X.env), fun A => ss_for (h2 A) (h4 A) (h6 A)⟩
theorem eg_name {i : Nat} {x : Str} (hN : c.N[i]? = some x) (hv : Loc c.sc x) (hf : c.fb x = true ∨ c.sc.names.lookup x = some .local) : EG g c (.Name x pos) [i] (gN i) :=
  ⟨_, fun X hX => pg_name hX.nd (by rw [hX.eN]; exact hN) (by rw [hX.es]; exact hv) (hf.elim (fun z => .inl (hX.fn x z)) fun z => .inr (by rw [hX.es]; exact z)), fun _ => sg_name⟩
theorem egs_nil : EGs g c [] [] gsN := ⟨_, fun _ _ => pgs_nil, fun _ => sgs_nil⟩
theorem egs_cons {ts us : List Nat} {gg : Vl → M Unit} {gs : List D → M Unit} (h : EG g c e ts gg) (h' : EGs g c es us gs) (hs : ∀ env : PySem.Env, (assignEach (e :: es) env).map (·.2) = assign e env :: (assignEach es env).map (·.2)) : EGs g c (e :: es) (ts ++ us) (gsC gg gs) := by
  obtain ⟨t, h1, h2⟩ := h
  obtain ⟨u, h3, h4⟩ := h'
  exact ⟨_, fun X hX => pgs_cons (h1 X hX) (h3 X hX) (hs X.env), fun A => sgs_cons (h2 A) (h4 A)⟩
theorem eg_tup {ts : List Nat} {gs : List D → M Unit} {k n : Nat} (h : EGs g c es ts gs) (hn : ∀ env : PySem.Env, (assignEach es env).length = n) (hst : ∀ env : PySem.Env, (assignEach es env).findIdx? (·.1) = none) : EG g c (.Tuple es k pos) ts (gT n gs) := by
  obtain ⟨t, h1, h2⟩ := h
  exact ⟨gTup g.K n t, fun X hX => by rw [← hX.eK]; exact pg_tup hX.calm (h1 X hX) (hn X.env) (hst X.env), fun A => sg_tup (h2 A)⟩
/-- name = value -/
theorem es_set {i : Nat} {x : Str} {pos' : Pos} (hN : c.N[i]? = some x) (hv : Loc c.sc x) (h : EE g c e m) (hs : ∀ env : PySem.Env, swapsWith e (some (.Name x pos')) pos.line env = pure false) (hf : c.fb x = true ∨ c.sc.names.lookup x = some .local) :
    ES g c (.Assign [.Name x pos'] e pos) (sAsg m (gN i)) := by
  obtain ⟨t, h1, h2⟩ := h
  exact ⟨_, fun X hX => ps_set hX.nd (by rw [hX.eN]; exact hN) (by rw [hX.es]; exact hv) (h1 X hX) (hs X.env) (hf.elim (fun z => .inl (hX.fn x z)) fun z => .inr (by rw [hX.es]; exact z)), fun A => ss_asg (h2 A) sg_name⟩
theorem es_asg {tg : Expr} {ts : List Nat} {gg : Vl → M Unit} (h : EE g c e m) (h' : EG g c tg ts gg) (hs : ∀ env : PySem.Env, swapsWithSole [tg] e pos.line env = pure false) (hw : ∀ env : PySem.Env, env.scope = c.sc → swappedStores [tg] e env = pure none)
    (h1 : ∀ env : PySem.Env, (assignEach [tg] env).map (·.2) = [assign tg env]) : ES g c (.Assign [tg] e pos) (sAsg m gg) := by
  obtain ⟨t, h2, h3⟩ := h
  obtain ⟨u, h4, h5⟩ := h'
  exact ⟨_, fun X hX => ps_asg (h2 X hX) (h4 X hX) (hs X.env) (hw X.env hX.es) (h1 X.env), fun A => ss_asg (h3 A) (h5 A)⟩

/-! ### what is walked -/
def mSeq (m : M Vl) : M (List D) := bd m fun r => bd (frz r.hold) fun d => match d with
  | .lst ds => rt ds
  | .tup ds => rt ds
  | _ => fun _ => none
def mLst (m : M Vl) : M (List D) := bd m fun r => bd (frz r.hold) fun d => match d with
  | .lst ds => rt ds
  | _ => fun _ => none
def mTup (m : M Vl) : M (List D) := bd m fun r => bd (frz r.hold) fun d => match d with
  | .tup ds => rt ds
  | .tp ds => rt ds
  | _ => fun _ => none
theorem wd_list {K : PySem.W.Frag} {B0 : Hp} {a : Addr} {xs : List V} {ds : List D} (h : SqL K B0 a xs) (r : Rps K B0 ds xs) : WD K (Itl K a) B0 ds := by
  have hl := r.length
  refine ⟨fun i H B hi s1 s2 => walk_list.goes i H (by omega) (sameL s2 (sameL s1 h)), fun H B s1 s2 => ?_, fun i H B x H' hi s1 s2 y => ?_⟩
  · rw [hl]
    exact walk_list.stops H (sameL s2 (sameL s1 h))
  · obtain ⟨e1, e2⟩ := walk_list.yields i H x H' (by omega) (sameL s2 (sameL s1 h)) y
    obtain ⟨d, h1, h2⟩ := r.getV e2
    exact ⟨d, h1, .inl ⟨e1, h2.mono s1⟩⟩
theorem wd_tup {K : PySem.W.Frag} {B0 : Hp} {a : Addr} {xs : List V} {ds : List D} (h : SqT K B0 a xs) (r : Rps K B0 ds xs) : WD K (Itt K a) B0 ds := by
  have hl := r.length
  refine ⟨fun i H B hi s1 s2 => walk_tup.goes i H (by omega) (sameT s2 (sameT s1 h)), fun H B s1 s2 => ?_, fun i H B x H' hi s1 s2 y => ?_⟩
  · rw [hl]
    exact walk_tup.stops H (sameT s2 (sameT s1 h))
  · obtain ⟨e1, e2⟩ := walk_tup.yields i H x H' (by omega) (sameT s2 (sameT s1 h)) y
    obtain ⟨d, h1, h2⟩ := r.getV e2
    exact ⟨d, h1, .inl ⟨e1, h2.mono s1⟩⟩
theorem si_list {K : PySem.W.Frag} {A : Anc} {t : TE} (h : SEX K A t m) : SIX K A (iList K t) (mLst m) := fun σ τ B H env pe env' ds R S hl e q => by
  obtain ⟨r, e1, he, e⟩ := bd_inv e
  obtain ⟨d, e2, hf, e⟩ := bd_inv e
  split at e
  · rename_i ds'
    cases e
    refine h σ τ B H env pe e1 r _ S hl he fun B1 H1 v s1 hl1 hv => ?_
    obtain ⟨B2, s2, S2, hh⟩ := hv.held
    obtain ⟨B3, s3, S3, hl3, rr⟩ := frz_ok S2 hl1 hh hf
    cases rr with
    | @lst a xs _ hs r2 => exact ⟨a, rfl, ⟨xs, .of (S3.same _ _ hs)⟩, q B3 H1 _ ((s1.trans s2).trans s3) hl3 S3 (wd_list (.of hs) r2)⟩
  · cases e
theorem si_tup {K : PySem.W.Frag} {A : Anc} {t : TE} (h : SEX K A t m) : SIX K A (iTup K t) (mTup m) := fun σ τ B H env pe env' ds R S hl e q => by
  obtain ⟨r, e1, he, e⟩ := bd_inv e
  obtain ⟨d, e2, hf, e⟩ := bd_inv e
  split at e
  · rename_i ds'
    cases e
    refine h σ τ B H env pe e1 r _ S hl he fun B1 H1 v s1 hl1 hv => ?_
    obtain ⟨B2, s2, S2, hh⟩ := hv.held
    obtain ⟨B3, s3, S3, hl3, rr⟩ := frz_ok S2 hl1 hh hf
    cases rr with
    | @tup a xs _ hs r2 => exact ⟨a, rfl, ⟨xs, (hs.same S3.same).sq⟩, q B3 H1 _ ((s1.trans s2).trans s3) hl3 S3 (wd_tup hs.sq r2)⟩
  · rename_i ds'
    cases e
    refine h σ τ B H env pe e1 r _ S hl he fun B1 H1 v s1 hl1 hv => ?_
    obtain ⟨B2, s2, S2, hh⟩ := hv.held
    obtain ⟨B3, s3, S3, hl3, rr⟩ := frz_ok S2 hl1 hh hf
    cases rr with
    | @tp a o xs _ hs _ r2 => exact ⟨a, rfl, ⟨xs, .inl (.inr ⟨_, S3.same _ _ hs⟩)⟩, q B3 H1 _ ((s1.trans s2).trans s3) hl3 S3 (wd_tup (.inl (.inr ⟨_, hs⟩)) r2)⟩
  · cases e
theorem ei_list {tg : Expr} (h : EE g c e m) : EI g c tg e (mLst m) := by
  obtain ⟨t, h1, h2⟩ := h
  exact ⟨iList g.K t, fun X hX => by rw [← hX.eK]; exact pi_list (h1 X hX), fun A => si_list (h2 A)⟩
theorem ei_tup {tg : Expr} (h : EE g c e m) : EI g c tg e (mTup m) := by
  obtain ⟨t, h1, h2⟩ := h
  exact ⟨iTup g.K t, fun X hX => by rw [← hX.eK]; exact pi_tup (h1 X hX), fun A => si_tup (h2 A)⟩
/-- ranges -/
def rngD (lo : Int) (n : Nat) : List D := (List.range n).map fun i : Nat => D.int (lo + (i : Int))
theorem wd_range {K : PySem.W.Frag} {B0 : Hp} {lo : Int} {n : Nat} : WD K (Itr lo n) B0 (rngD lo n) := by
  have hl : (rngD lo n).length = n := by simp [rngD]
  refine ⟨fun i H B hi _ _ => ?_, fun H B _ _ => ?_, fun i H B x H' hi _ _ y => ?_⟩
  · show i < n
    omega
  · show n ≤ (rngD lo n).length
    omega
  · obtain ⟨e1, e2⟩ := y
    refine ⟨.int (lo + (i : Int)), ?_, .inl ⟨e1, by rw [e2]; exact .int _⟩⟩
    rw [hl] at hi
    simp [rngD, hi]
def in62 (i : Int) : Bool := decide (-(2 ^ 62) ≤ i) && decide (i < 2 ^ 62)
def mR1 (ms : M (List Vl)) : M (List D) := bd ms fun rs e => match cnts e rs with
  | some [.int j] => if in62 j = true then some (rngD 0 j.toNat, e) else none
  | _ => none
def mR2 (ms : M (List Vl)) : M (List D) := bd ms fun rs e => match cnts e rs with
  | some [.int i, .int j] => if (in62 i && in62 j) = true then some (rngD i (j - i).toNat, e) else none
  | _ => none
theorem in62_ok {i : Int} (h : in62 i = true) : -(2 ^ 62) ≤ i ∧ i < 2 ^ 62 := by
  have h : decide (-(2 ^ 62) ≤ i) = true ∧ decide (i < 2 ^ 62) = true := by simpa [in62] using h
  exact ⟨of_decide_eq_true h.1, of_decide_eq_true h.2⟩
theorem si_r1 {K : PySem.W.Frag} {A : Anc} {t : TA} (h : SAX K A t ms) : SIX K A (iRng1 t) (mR1 ms) := fun σ τ B H env pe env' ds R S hl e q => by
  obtain ⟨rs, e1, he, e⟩ := bd_inv e
  split at e
  · rename_i j hc
    split at e
    · rename_i hj
      cases e
      refine h σ τ B H env pe _ rs _ S hl he fun B1 H1 vs s1 hl1 S1 hr => ?_
      have rr := Hv.rrs S1 hl1 hr hc
      cases rr with
      | cons r1 r2 =>
        cases r2
        obtain ⟨h1, h2⟩ := in62_ok hj
        rw [r1.int]
        exact ⟨j, rfl, h1, h2, q B1 H1 _ s1 hl1 S1 wd_range⟩
    · cases e
  · cases e
theorem si_r2 {K : PySem.W.Frag} {A : Anc} {t : TA} (h : SAX K A t ms) : SIX K A (iRng2 t) (mR2 ms) := fun σ τ B H env pe env' ds R S hl e q => by
  obtain ⟨rs, e1, he, e⟩ := bd_inv e
  split at e
  · rename_i i j hc
    split at e
    · rename_i hj
      cases e
      refine h σ τ B H env pe _ rs _ S hl he fun B1 H1 vs s1 hl1 S1 hr => ?_
      have rr := Hv.rrs S1 hl1 hr hc
      cases rr with
      | cons r1 r2 =>
        cases r2 with
        | cons r2 r3 =>
          cases r3
          have hj : in62 i = true ∧ in62 j = true := by simpa using hj
          obtain ⟨h1, h2⟩ := in62_ok hj.1
          obtain ⟨h3, h4⟩ := in62_ok hj.2
          rw [r1.int, r2.int]
          exact ⟨i, j, rfl, ⟨h1, h2, h3, h4⟩, q B1 H1 _ s1 hl1 S1 wd_range⟩
    · cases e
  · cases e
theorem ei_r1 {tg : Expr} (hg : GlC c "range") (hm : g.mg "range" = none) (h : EA g c [a] ms) (pl : Pl a) : EI g c tg (.Call (.Name "range" p) [a] [] pos) (mR1 ms) := by
  obtain ⟨t, h1, h2⟩ := h
  exact ⟨_, fun X hX => pi_range1 (gl_of hX hg) (by rw [hX.em]; exact hm) (h1 X hX) (by rw [pl [] X.env]; rfl), fun A => si_r1 (h2 A)⟩
theorem ei_r2 {tg : Expr} (hg : GlC c "range") (hm : g.mg "range" = none) (h : EA g c [a, b] ms) (pl : Pl a) (pl2 : Pl b) : EI g c tg (.Call (.Name "range" p) [a, b] [] pos) (mR2 ms) := by
  obtain ⟨t, h1, h2⟩ := h
  exact ⟨_, fun X hX => pi_range2 (gl_of hX hg) (by rw [hX.em]; exact hm) (h1 X hX) (by rw [pl [b] X.env, pl2 [] X.env]; rfl) (by rw [pl2 [] X.env]; rfl), fun A => si_r2 (h2 A)⟩

/-! ### comprehensions -/
def EPTs (g : G0) (c : Ct) (es : List Expr) (m : M Bool) : Prop := ∃ t, (∀ X, Cok g c X → PTs X es t) ∧ ∀ A, STX g.K A t m
theorem ep_nil : EPTs g c [] (rt true) := ⟨_, fun _ _ => pts_nil, fun A σ τ B H env pe env' b Q S hl e q => by
  cases e
  exact q B H (Same.refl _) hl S⟩
theorem ep_one (h : ET g c e mt) : EPTs g c [e] mt := by
  obtain ⟨t, h1, h2⟩ := h
  exact ⟨_, fun X hX => pts_one (h1 X hX), h2⟩
theorem ee_comp {elt tg iter : Expr} {ifs : List Expr} {scope : Scope} {own : List (Str × Nat)} {ts : List Nat} {mi : M (List D)} {gg : Vl → M Unit} {me : M Vl} (ok : blkC c.N c.sc scope own = true) (nd : (own.map (·.2)).Nodup) (ht : ∀ i ∈ ts, i ∈ own.map (·.2))
    (hi : EI g c tg iter mi) (hg : EG g (c.blk scope) tg ts gg) (hc : EPTs g (c.blk scope) ifs mt) (he : EE g (c.blk scope) elt me) (hs : ∀ (env : PySem.Env) x, foldedSetIterable iter env x = pure x) :
    EE g c (.ListComp elt [⟨tg, iter, ifs, 0⟩] scope pos) (eComp (own.map (·.2)) mi gg mt me) := by
  obtain ⟨t1, h1, k1⟩ := hi
  obtain ⟨t2, h2, k2⟩ := hg
  obtain ⟨t3, h3, k3⟩ := hc
  obtain ⟨t4, h4, k4⟩ := he
  refine ⟨_, fun X hX => pe_lc hX.calm hX.nd (h1 X hX) (blkOk_by (by rw [hX.eN, hX.es]; exact ok)) (fun s H C cl fp => h2 _ (hX.blk scope s H C cl fp)) (fun s H C cl fp => h3 _ (hX.blk scope s H C cl fp)) (fun s H C cl fp => h4 _ (hX.blk scope s H C cl fp)) (hs X.env), fun A => sx_comp nd ht (k1 A) (k2 A) (k3 A) (k4 A)⟩
/-- y = [..] where the store is done within the comprehension's frame -/
theorem es_setLc {i : Nat} {y : Str} {py : Pos} {elt tg iter : Expr} {ifs : List Expr} {scope : Scope} {own : List (Str × Nat)} {spos : Pos} {ts : List Nat} {mi : M (List D)} {gg : Vl → M Unit} {me : M Vl} (hy : c.N[i]? = some y) (hyl : c.sc.names.lookup y = some .local)
    (hsw : ∀ env : PySem.Env, env.scope = c.sc → swapsWith (.ListComp elt [⟨tg, iter, ifs, 0⟩] scope pos) (some (.Name y py)) spos.line env = pure true)
    (ok : blkC c.N c.sc scope own = true) (nd : (own.map (·.2)).Nodup) (ht : ∀ i ∈ ts, i ∈ own.map (·.2)) (hi : EI g c tg iter mi) (hg : EG g (c.blk scope) tg ts gg) (hc : EPTs g (c.blk scope) ifs mt) (he : EE g (c.blk scope) elt me)
    (hs : ∀ (env : PySem.Env) x, foldedSetIterable iter env x = pure x) :
    ES g c (.Assign [.Name y py] (.ListComp elt [⟨tg, iter, ifs, 0⟩] scope pos) spos) (sAsg (eComp (own.map (·.2)) mi gg mt me) (gN i)) := by
  obtain ⟨t1, h1, k1⟩ := hi
  obtain ⟨t2, h2, k2⟩ := hg
  obtain ⟨t3, h3, k3⟩ := hc
  obtain ⟨t4, h4, k4⟩ := he
  refine ⟨_, fun X hX => ps_setLc hX.calm hX.nd (by rw [hX.eN]; exact hy) (by rw [hX.es]; exact hyl) (hsw X.env hX.es) (h1 X hX) (blkOk_by (by rw [hX.eN, hX.es]; exact ok)) (fun s H C cl fp => h2 _ (hX.blk scope s H C cl fp)) (fun s H C cl fp => h3 _ (hX.blk scope s H C cl fp)) (fun s H C cl fp => h4 _ (hX.blk scope s H C cl fp)) (hs X.env), fun A => ss_asg (sx_comp nd ht (k1 A) (k2 A) (k3 A) (k4 A)) sg_name⟩
end
end PD
namespace PD
open PySem PySem.Spec PyProof.Rows L2

/-! ### a def's promise where no repr is under way -/
structure FnG (g : G0) (k : Nat) (f : Addr) (fd : FuncData) (ps : List Str) (sp : Sp) : Prop where
  len : ∀ vs H Q, sp vs H Q E0 → vs.length = ps.length
  run : ∀ (A : Around) (outer : List PySem.Env) (s : Shared) (H : Hp) (args : Args) (us : List Value) (vs : List V) (Q : VK), Room k A → A.guards = some [] → Env0 g.P g.w g.K g.mg g.base A outer s H →
    BindsTo s fd args (ps.zip us) → Vals vs us → sp vs H Q E0 → codeAny (model g.P g.w) A (.call (.ref f) args) (CR CX0 outer g.P g.w H s Q E0) s

/-- the def x stands in the text and does F -/
structure FnI (g : G0) (x : Str) (k : Nat) (F : Fs) : Prop where
  ex : ∃ (f : Addr) (fd : FuncData) (ps : List Str), g.mg x = some (.ref f) ∧ PySem.W.keepIn g.K (.ref f) = true ∧ Binds g.K fd ps [] ∧ FnG g k f fd ps (spF g.K F)
theorem FnI.mono {g : G0} {x : Str} {j k : Nat} {F : Fs} (h : FnI g x j F) (hj : j ≤ k) : FnI g x k F := by
  obtain ⟨f, fd, ps, h1, h2, h3, h4⟩ := h.ex
  exact ⟨f, fd, ps, h1, h2, h3, ⟨h4.len, fun A outer s H args us vs Q hr => h4.run A outer s H args us vs Q (hr.mono hj)⟩⟩

/-! ### a call of a def -/
def nmOut : List Bool → List D → Bool
  | true :: bs, d :: ds => d.nmC && nmOut bs ds
  | false :: bs, _ :: ds => nmOut bs ds
  | _, _ => true
theorem nmOut_at : ∀ {sig : List Bool} {ds : List D} {j : Nat} {d : D}, nmOut sig ds = true → sig[j]? = some true → ds[j]? = some d → d.nmC = true
  | [], _, _, _, _, h, _ => by simp at h
  | _ :: _, [], _, _, _, _, h => by simp at h
  | b :: bs, d :: ds, 0, _, h, h1, h2 => by
    simp at h1 h2
    subst h1 h2
    have h : d.nmC = true ∧ nmOut bs ds = true := by simpa [nmOut] using h
    exact h.1
  | b :: bs, d :: ds, j + 1, d', h, h1, h2 => by
    refine nmOut_at (sig := bs) (ds := ds) (j := j) ?_ (by simpa using h1) (by simpa using h2)
    cases b with
    | true =>
      have h : d.nmC = true ∧ nmOut bs ds = true := by simpa [nmOut] using h
      exact h.2
    | false => exact h
def disj (xs ys : List Nat) : Bool := xs.all fun i => !ys.contains i
def callE (F : Fs) (rs : List Vl) : M Vl := fun e => match cnts e rs with
  | some ds => if (ioAll e F.sig rs && decide (ioIx F.sig rs).Nodup && disj (ioIx F.sig rs) (brIx e F.sig rs)) = true then match F.sem ds with
      | some (r, ds') => if ((brIx e F.sig rs).isEmpty || (r.nm && nmOut F.sig ds')) = true then some (r, updE F.sig rs ds' e) else none
      | none => none
    else none
  | none => none
def frzA : List Bool → List Vl → M (List Vl)
  | false :: bs, .bo i :: rs => bd (frz (.bo i)) fun d => bd (frzA bs rs) fun r => rt (.im d :: r)
  | _ :: bs, v :: rs => bd (frzA bs rs) fun r => rt (v :: r)
  | _, rs => rt rs
def eCall (F : Fs) (ms : M (List Vl)) : M Vl := bd ms fun rs e => match callE F rs e with
  | some x => some x
  | none => bd (frzA F.sig rs) (callE F) e
section
variable {K : PySem.W.Frag} {A : Anc} {σ τ : L2.St} {pe : Env}
theorem callE_ok {F : Fs} {rs : List Vl} {vs : List V} {B H : Hp} {env env' : Env} {r : Vl} (S : SR K A B H (σ ++ τ) (env ++ pe)) (hl : σ.length = env.length) (hr : Paired (Hv K B σ) rs vs) (e : callE F rs env = some (r, env')) (Q : VK)
    (q : ∀ B' H' v, Same B B' → σ.length = env'.length → VR K A B' H' σ τ env' pe r v → Q v H') (E : XK) : spF K F vs H Q E := by
  unfold callE at e
  split at e
  · rename_i ds hc
    split at e
    · rename_i hk
      have hk : (ioAll env F.sig rs = true ∧ (ioIx F.sig rs).Nodup) ∧ disj (ioIx F.sig rs) (brIx env F.sig rs) = true := by simpa using hk
      split at e
      · rename_i r' ds' hf
        split at e
        · rename_i hn
          cases e
          refine call_ok S hl hr hc hk.1.1 hk.1.2 (fun i hi => ?_) hf ?_ Q (fun B' H' v s h => q B' H' v s (by rw [updE_length]; exact hl) h) E
          · have := List.all_eq_true.mp hk.2 i hi
            simpa using this
          · rcases Bool.or_eq_true_iff.mp hn with h | h
            · exact .inl (by simpa using h)
            · have h := Bool.and_eq_true_iff.mp h
              exact .inr ⟨h.1, fun j d h1 h2 => nmOut_at h.2 h1 h2⟩
        · cases e
      · cases e
    · cases e
  · cases e
theorem frzA_ok : ∀ {sig : List Bool} {rs : List Vl} {vs : List V} {B H : Hp} {env env' : Env} {rs' : List Vl}, SR K A B H (σ ++ τ) (env ++ pe) → σ.length = env.length → Paired (Hv K B σ) rs vs → frzA sig rs env = some (rs', env') →
    ∃ B', Same B B' ∧ SR K A B' H (σ ++ τ) (env' ++ pe) ∧ σ.length = env'.length ∧ Paired (Hv K B' σ) rs' vs
  | [], rs, vs, B, H, env, env', rs', S, hl, hr, e => by
    cases rs <;> (cases e; exact ⟨B, Same.refl _, S, hl, hr⟩)
  | b :: bs, [], vs, B, H, env, env', rs', S, hl, hr, e => by
    cases b <;> (cases e; exact ⟨B, Same.refl _, S, hl, hr⟩)
  | b :: bs, v :: rs, u :: vs, B, H, env, env', rs', S, hl, .cons h t, e => by
    have keep : ∀ {e' : bd (frzA bs rs) (fun r => rt (v :: r)) env = some (rs', env')}, ∃ B', Same B B' ∧ SR K A B' H (σ ++ τ) (env' ++ pe) ∧ σ.length = env'.length ∧ Paired (Hv K B' σ) rs' (u :: vs) := by
      intro e'
      obtain ⟨r1, e1, h1, h2⟩ := bd_inv e'
      cases h2
      obtain ⟨B1, s1, S1, hl1, p1⟩ := frzA_ok S hl t h1
      exact ⟨B1, s1, S1, hl1, .cons (h.mono s1) p1⟩
    cases b with
    | true => exact keep (e' := e)
    | false =>
      cases v with
      | im d => exact keep (e' := e)
      | fr d => exact keep (e' := e)
      | bo i =>
        obtain ⟨d, e1, h1, e⟩ := bd_inv e
        obtain ⟨r1, e2, h2, e⟩ := bd_inv e
        cases e
        obtain ⟨B1, s1, S1, hl1, rr⟩ := frz_ok S hl h h1
        obtain ⟨B2, s2, S2, hl2, p2⟩ := frzA_ok S1 hl1 (Paired.mapP t fun _ _ z => z.mono s1) h2
        exact ⟨B2, s1.trans s2, S2, hl2, .cons (rr.mono s2) p2⟩
theorem sx_call {F : Fs} {t : TA} {ms : M (List Vl)} (h : SAX K A t ms) : SEX K A (tCall (spF K F) [] E0 t) (eCall F ms) := fun σ τ B H env pe env' r Q S hl e q => by
  obtain ⟨rs, e1, he, e⟩ := bd_inv e
  refine h σ τ B H env pe e1 rs _ S hl he fun B1 H1 vs s1 hl1 S1 hr => ?_
  show spF K F (vs ++ []) H1 Q E0
  rw [List.append_nil]
  split at e
  · rename_i x hx
    cases e
    exact callE_ok S1 hl1 hr hx Q (fun B2 H2 v s2 => q B2 H2 v (s1.trans s2)) _
  · obtain ⟨rs2, e2, h2, e⟩ := bd_inv e
    obtain ⟨B2, s2, S2, hl2, p2⟩ := frzA_ok S1 hl1 hr h2
    exact callE_ok S2 hl2 p2 e Q (fun B3 H3 v s3 => q B3 H3 v ((s1.trans s2).trans s3)) _
end
section
variable {g : G0} {c : Ct} {e : Expr} {es : List Expr} {pos p : Pos} {ms : M (List Vl)}
theorem runG {X : Cx} {f : Addr} {fd : FuncData} {ps : List Str} {sp : Sp} {k : Nat} (hX : Cok g c X) (F : FnG g k f fd ps sp) (hk : k ≤ c.k) (hb : Binds g.K fd ps []) {pins : List (Addr × Obj)} {σ : L2.St} {H : Hp} {s : Shared} {Q : VK} {us : List Value} {vs : List V} (I : Inv X pins σ H s) (r : Vals vs us) (h : sp vs H Q E0) :
    wpAny (model X.prog X.w) X.A (call (.ref f) us) (EP X pins σ Q) X.xe s := by
  have e0 := I.env0
  rw [hX.eP, hX.ew, hX.eK, hX.em, hX.eb] at e0
  have hl : (us ++ ([] : List Value)).length = ps.length := by
    rw [List.append_nil, ← r.length]
    exact F.len _ _ _ h
  have kin : g.K.In s.heap := by
    rw [← hX.eK]
    exact I.kIn
  have hb' := hb s us kin hl
  rw [List.append_nil] at hb'
  have run := F.run X.A X.stack s H ⟨us, []⟩ us vs Q (hX.room.mono hk) hX.gu e0 hb' r h
  rw [← hX.eP, ← hX.ew] at run
  refine wpAny_call (codeAny_mono run fun r s' hq => ?_)
  cases r with
  | error e => exact hq.elim
  | ok fl =>
    cases fl with
    | ret u => exact I.after hq
    | next => exact hq.elim
    | brk => exact hq.elim
    | cont => exact hq.elim
theorem ee_call {x : Str} {k : Nat} {F : Fs} (hF : FnI g x k F) (hk : k ≤ c.k) (hg : GlC c x) (h : EA g c (e :: es) ms) (pl : Pl e) (hpl : ∀ env : PySem.Env, (backTo pos (starEach es env)).any (·.1) = false) (hdb : (x == ("__debug__" : Str)) = false) :
    EE g c (.Call (.Name x p) (e :: es) [] pos) (eCall F ms) := by
  obtain ⟨f, fd, ps, f1, f2, f3, f4⟩ := hF.ex
  obtain ⟨t, h1, h2⟩ := h
  refine ⟨tCall (spF g.K F) [] E0 t, fun X hX => ⟨fun pins s σ H Q I hq => ?_⟩, fun A => sx_call (h2 A)⟩
  refine wpAny_Call_Name_kw (ld_glob I (gl_of hX hg) (by rw [hX.em]; exact f1) ?_ hdb)
  have hkp : PySem.W.keepIn X.K (.ref f) = true := by rw [hX.eK]; exact f2
  refine PySem.W.callWith_K (h₀ := X.base) I.ok.mod.kin hkp (thn ((h1 X hX).run pos pins s σ H _ I hq) fun us s1 ⟨vs, H1, I1, r, q⟩ => ⟨I1.kIn, ?_⟩) (pl es X.env) (hpl X.env)
  refine runG hX f4 hk f3 I1 r ?_
  have q : spF g.K F (vs ++ []) H1 Q E0 := q
  rwa [List.append_nil] at q
end

/-! ### a def by its body -/
def outE : List Bool → Nat → Env → List D → Option (List D)
  | b :: bs, k, e, d :: ds => match outE bs (k + 1) e ds with
    | none => none
    | some r => if b = true then match e[k]? with
        | some (.io j d') => if j = k then some (d' :: r) else none
        | _ => none
      else some (d :: r)
  | _, _, _, _ => some []
def retV (e : Env) : Vl → Option Vl
  | .im d => some (.im d)
  | .fr d => some (.fr d)
  | .bo i => match e[i]? with
    | some (.ow d) => some (.fr d)
    | some (.im d) => some (.im d)
    | _ => none
def runF (sig : List Bool) (n : Nat) (body : SM) (ds : List D) : Option (Vl × List D) :=
  if ds.length = sig.length then match body (mkE 0 sig ds ++ List.replicate (n - ds.length) .em) with
    | some (.nx, e) => match outE sig 0 e ds with
      | some o => some (.im .non, o)
      | none => none
    | some (.rt r, e) => match retV e r, outE sig 0 e ds with
      | some r', some o => some (r', o)
      | _, _ => none
    | _ => none
  else none
theorem outE_at : ∀ {sig : List Bool} {k : Nat} {e : Env} {ds o : List D}, ds.length = sig.length → outE sig k e ds = some o → o.length = ds.length ∧
    ∀ (j : Nat) (b : Bool) (d : D), sig[j]? = some b → o[j]? = some d → (b = true ∧ e[k + j]? = some (.io (k + j) d)) ∨ (b = false ∧ ds[j]? = some d)
  | [], k, e, ds, o, hl, h => by
    have : ds = [] := List.length_eq_zero_iff.mp (by simpa using hl)
    subst this
    cases h
    exact ⟨rfl, fun j b d h => by simp at h⟩
  | b :: bs, k, e, [], o, hl, h => by simp at hl
  | b :: bs, k, e, d :: ds, o, hl, h => by
    unfold outE at h
    split at h
    · cases h
    · rename_i r hr
      obtain ⟨h1, h2⟩ := outE_at (sig := bs) (k := k + 1) (by simpa using hl) hr
      split at h
      · rename_i hb
        split at h
        · rename_i j0 d' he
          split at h
          · rename_i hj
            cases h
            subst hj
            refine ⟨by simp [h1], fun j b' d2 g1 g2 => ?_⟩
            cases j with
            | zero =>
              simp at g1 g2
              subst g1 g2
              exact .inl ⟨hb, he⟩
            | succ j =>
              have := h2 j b' d2 (by simpa using g1) (by simpa using g2)
              rw [show j0 + 1 + j = j0 + (j + 1) by omega] at this
              simpa using this
          · cases h
        · cases h
      · rename_i hb
        cases h
        refine ⟨by simp [h1], fun j b' d2 g1 g2 => ?_⟩
        cases j with
        | zero =>
          simp at g1 g2
          subst g1 g2
          exact .inr ⟨by simpa using hb, rfl⟩
        | succ j =>
          have := h2 j b' d2 (by simpa using g1) (by simpa using g2)
          rw [show k + 1 + j = k + (j + 1) by omega] at this
          simpa using this
section
variable {K : PySem.W.Frag} {A : Anc}
theorem SR.ems {B H : Hp} {σ : L2.St} {env : Env} (S : SR K A B H σ env) (n : Nat) : SR K A B H (σ ++ List.replicate n none) (env ++ List.replicate n .em) := by
  refine S.sub (by simp [S.len]) id (fun _ _ _ _ _ _ _ _ h => h) (fun i sl e ne => ?_)
  by_cases hi : i < env.length
  · rw [List.getElem?_append_left hi] at e
    exact ⟨e, by rw [List.getElem?_append_left (by rw [S.len]; exact hi)]; rfl⟩
  · rw [List.getElem?_append_right (by omega), List.getElem?_replicate] at e
    split at e
    · cases e
      exact absurd rfl ne
    · cases e
/-- the parameters behind the body -/
theorem params_end {sig : List Bool} {ds o : List D} {vs : List V} {B H B1 H1 : Hp} {σ : L2.St} {env : Env} (S0 : SR K A B H (vs.map some) (mkE 0 sig ds)) (hd : ds.length = sig.length) (s : Same B B1) (S : SR K A B1 H1 σ env) (ho : outE sig 0 env ds = some o) :
    o.length = ds.length ∧ SR K A B1 H1 (vs.map some) (mkE 0 sig o) := by
  obtain ⟨h1, h2⟩ := outE_at hd ho
  refine ⟨h1, ?_⟩
  have lv : vs.length = sig.length := by
    have := S0.len
    rw [List.length_map, mkE_length hd] at this
    exact this
  refine ⟨by rw [List.length_map, mkE_length (by omega)]; omega, S.same, fun j sl ov e1 e2 => ?_, fun i j p sl sl' ne e1 e2 m1 m2 e3 e4 => ?_, S.anc, S.iob, S.ioh⟩
  · obtain ⟨b, d, g1, g2, rfl⟩ := mkE_get e1
    have hj : j < ds.length := by
      have := (List.getElem?_eq_some_iff.mp g1).1
      omega
    have hd0 := List.getElem?_eq_getElem hj
    have old := S0.slot j _ ov (mkE_at (k := 0) g1 hd0) e2
    rcases h2 j b d g1 g2 with ⟨rfl, he⟩ | ⟨rfl, hds⟩
    · rw [if_pos rfl] at old ⊢
      rw [Nat.zero_add] at he old ⊢
      cases old with
      | @io _ p _ a1 c1 =>
        have hi := (List.getElem?_eq_some_iff.mp he).1
        have hs := List.getElem?_eq_getElem (l := σ) (i := j) (by rw [S.len]; exact hi)
        cases hv : σ[j]'(by rw [S.len]; exact hi) with
        | none =>
          rw [hv] at hs
          cases S.slot j _ _ he hs
        | some v =>
          rw [hv] at hs
          cases S.slot j _ _ he hs with
          | @io _ p' _ a2 c2 =>
            rw [a1] at a2
            cases a2
            exact .io a1 c2
    · rw [if_neg Bool.false_ne_true] at old ⊢
      rw [hd0] at hds
      cases hds
      cases old with
      | im r => exact .im (r.mono s)
  · obtain ⟨b, d, g1, g2, rfl⟩ := mkE_get e1
    obtain ⟨b', d', g1', g2', rfl⟩ := mkE_get e2
    have hj : i < ds.length := by
      have := (List.getElem?_eq_some_iff.mp g1).1
      omega
    have hj' : j < ds.length := by
      have := (List.getElem?_eq_some_iff.mp g1').1
      omega
    refine S0.inj i j p _ _ ne (mkE_at (k := 0) g1 (List.getElem?_eq_getElem hj)) (mkE_at (k := 0) g1' (List.getElem?_eq_getElem hj')) ?_ ?_ e3 e4
    · cases b with
      | true => rfl
      | false => cases m1
    · cases b' with
      | true => rfl
      | false => cases m2
/-- what is given back is the caller's own from there on -/
theorem give_back {sig : List Bool} {o : List D} {vs : List V} {B1 H1 : Hp} {d : D} {p : Addr} (S : SR K A B1 H1 (vs.map some) (mkE 0 sig o)) (ho : o.length = sig.length) (b : B1 p = none) (h0 : A.H0 p = none) (c : Cont K B1 d (H1 p)) :
    SR K A B1 H1 (vs.map some ++ [some (.ref p)]) (mkE 0 sig o ++ [.ow d]) := by
  have ln := S.len
  have no : ∀ (i : Nat) (sl : Sl), (mkE 0 sig o)[i]? = some sl → sl.mut = true → (vs.map some)[i]? ≠ some (some (V.ref p)) := fun i sl e m z => by
    obtain ⟨bb, d', g1, g2, rfl⟩ := mkE_get e
    cases bb with
    | false => cases m
    | true =>
      rw [if_pos rfl] at e
      cases S.slot i _ _ e z with
      | io a1 c1 =>
        obtain ⟨u, hu⟩ := S.ioh p ⟨_, a1⟩
        rw [h0] at hu
        cases hu
  refine ⟨by simp only [List.length_append, List.length_cons, List.length_nil] at ln ⊢; omega, S.same, fun i sl ov g1 g2 => ?_, fun i i' p' sl sl' ne g1 g2 m1 m2 g3 g4 => ?_, S.anc, S.iob, S.ioh⟩
  · rcases getE_snoc g1 with ⟨hi, g1⟩ | ⟨hi, rfl⟩
    · rw [List.getElem?_append_left (by rw [ln]; exact hi)] at g2
      exact S.slot i sl ov g1 g2
    · rw [hi, ← ln] at g2
      have : ov = some (.ref p) := by simpa using g2.symm
      subst this
      exact .ow b h0 c
  · rcases getE_snoc g1 with ⟨hi, g1⟩ | ⟨hi, rfl⟩
    · rw [List.getElem?_append_left (by rw [ln]; exact hi)] at g3
      rcases getE_snoc g2 with ⟨hi', g2⟩ | ⟨hi', rfl⟩
      · rw [List.getElem?_append_left (by rw [ln]; exact hi')] at g4
        exact S.inj i i' p' sl sl' ne g1 g2 m1 m2 g3 g4
      · rw [hi', ← ln] at g4
        have : V.ref p = V.ref p' := by simpa using g4
        cases this
        exact no i sl g1 m1 g3
    · rw [hi, ← ln] at g3
      have : V.ref p = V.ref p' := by simpa using g3
      cases this
      rcases getE_snoc g2 with ⟨hi', g2⟩ | ⟨hi', rfl⟩
      · rw [List.getElem?_append_left (by rw [ln]; exact hi')] at g4
        exact no i' sl' g2 m2 g4
      · exact ne (hi.trans hi'.symm)
theorem body_ok {sig : List Bool} {n : Nat} {body : SM} {t : TS} (hn : sig.length ≤ n) (hb : ∀ A, SSX K A t body) {N : List Str} (hN : N.length = n) {vs : List V} {H : Hp} {Q : VK} {E : XK} (h : spF K ⟨runF sig n body, sig⟩ vs H Q E) :
    t { nx := fun _ H' => Q .non H', rt := Q } (L2.start N vs) H := by
  obtain ⟨A, B, ds, ds', r, hA, hB, S, hd, hf, q⟩ := h
  have hf : runF sig n body ds = some (r, ds') := hf
  have hd : ds.length = sig.length := hd
  unfold runF at hf
  rw [if_pos hd] at hf
  have lv : vs.length = sig.length := by
    have := S.len
    rw [List.length_map] at this
    rw [this]
    exact mkE_length hd
  have S0 : SR K A B H (L2.start N vs) (mkE 0 sig ds ++ List.replicate (n - ds.length) .em) := by
    have e : L2.start N vs = vs.map some ++ List.replicate (n - ds.length) none := by
      unfold L2.start
      rw [hN, lv, hd]
    rw [e]
    exact S.ems _
  split at hf
  · rename_i e1 hbe
    split at hf
    · rename_i o ho
      cases hf
      refine hb A (L2.start N vs) B H _ e1 .nx _ S0 hbe fun σ1 B1 H1 s1 S1 => ?_
      obtain ⟨lo, S2⟩ := params_end S hd s1 S1 ho
      exact q B1 H1 .non s1 lo ⟨S2, .non⟩
    · cases hf
  · rename_i r0 e1 hbe
    split at hf
    · rename_i r' o hr ho
      cases hf
      refine hb A (L2.start N vs) B H _ e1 (.rt r0) _ S0 hbe fun σ1 B1 H1 v s1 hl1 hv => ?_
      have S1 : SR K A B1 H1 σ1 e1 := hv.drop.app_nil
      obtain ⟨lo, S2⟩ := params_end S hd s1 S1 ho
      have lo2 : ds'.length = sig.length := by omega
      cases r0 with
      | im d =>
        cases hr
        exact q B1 H1 v s1 lo ⟨S2, hv.2⟩
      | fr d =>
        cases hr
        have hv : SR K A B1 H1 (σ1 ++ [] ++ [some v]) (e1 ++ [] ++ [.ow d]) := hv
        rw [List.append_nil, List.append_nil] at hv
        have g1 : (e1 ++ [Sl.ow d])[e1.length]? = some (.ow d) := by simp
        have g2 : (σ1 ++ [some v])[e1.length]? = some (some v) := by
          rw [← hl1]
          simp
        cases hv.slot _ _ _ g1 g2 with
        | ow b h0 c => exact q B1 H1 _ s1 lo (give_back S2 lo2 b h0 c)
      | bo i =>
        obtain ⟨_, hi⟩ := hv
        unfold retV at hr
        dsimp only at hr
        split at hr
        · rename_i d he
          cases hr
          cases S1.slot _ _ _ he hi with
          | ow b h0 c => exact q B1 H1 _ s1 lo (give_back S2 lo2 b h0 c)
        · rename_i d he
          cases hr
          cases S1.slot _ _ _ he hi with
          | im r => exact q B1 H1 v s1 lo ⟨S2, r⟩
        · cases hr
    · cases hf
  · cases hf
end

/-- where a def of the text stands -/
structure DefAt (g : G0) (x : Str) (st : Stmt) (ps : List Str) : Prop where
  ex : ∃ (f : Addr) (fd : FuncData), g.mg x = some (.ref f) ∧ Fun g.K x x st f fd ∧ Binds g.K fd ps []
theorem fn_none {g : G0} {x : Str} {st : Stmt} {ps : List Str} (D : DefAt g x st ps) (k : Nat) (sig : List Bool) : FnI g x k ⟨fun _ => none, sig⟩ := by
  obtain ⟨f, fd, h1, h2, h3⟩ := D.ex
  have no : ∀ {vs : List V} {H : Hp} {Q : VK} {E : XK}, ¬ spF g.K ⟨fun _ => none, sig⟩ vs H Q E := fun ⟨_, _, _, _, _, _, _, _, _, h, _⟩ => nomatch h
  exact ⟨f, fd, ps, h1, h2.kp, h3, ⟨fun vs H Q h => (no h).elim, fun A outer s H args us vs Q _ _ _ _ _ h => (no h).elim⟩⟩
theorem fn_at {g : G0} {x : Str} {st : Stmt} {f : Addr} {fd : FuncData} {N ps : List Str} {sig : List Bool} {body : SM} {k : Nat} (h2 : Fun g.K x x st f fd) (S : FnScope N ps (defScope st)) (hs : sig.length = ps.length) (hb : ESs g ⟨N, defScope st, fun _ => true, k⟩ (defBody st) body) :
    FnG g (k + 1) f fd ps (spF g.K ⟨runF sig N.length body, sig⟩) := by
  obtain ⟨oc, od, kV, doc, pm, an, cdv, ct, osl, rfl, lk, hcd⟩ := h2.ex
  have len : ∀ vs H Q, spF g.K ⟨runF sig N.length body, sig⟩ vs H Q E0 → vs.length = ps.length := fun vs H Q ⟨A, B, ds, ds', r, _, _, S', hd, _⟩ => by
    have := S'.len
    have hd : ds.length = sig.length := hd
    rw [List.length_map] at this
    rw [this, ← hs]
    exact mkE_length hd
  have hpl : ps.length ≤ N.length := by
    have := congrArg List.length S.pre
    rw [List.length_take] at this
    omega
  obtain ⟨t, ht, hq⟩ := hb
  refine ⟨len, fun A outer s H args us vs Q hr hgu e0 hbd r hsp => ?_⟩
  have hl := len _ _ _ hsp
  have KX : g.K.In s.heap := e0.mod.kin.keeps fun b o e => (e0.bs b o e).1
  have lim : s.heap.NoLimit := e0.mod.nolimit.keeps fun b o e => (e0.bs b o e).1
  have hkind : ∀ y ∈ ps.zip us, (defScope st).names.lookup y.1 = some .local ∨ ((defScope st).names.lookup y.1 = some .cell ∧ ((cellsFrom (s.heap.objs.size + 1) (defScope st).names []).lookup y.1).isSome = true) := fun ⟨n, v⟩ hy => by
    rcases S.par n (List.of_mem_zip hy).1 with q | q
    · exact .inl q
    · exact .inr ⟨q, PySem.W.cellsFrom_some _ _ _ (.inl q)⟩
  refine codeAny_call_function hr.depth (KX _ _ lk) rfl S.co S.gen rfl (PySem.W.codeRec_of KX hcd) (hbd _ _ _ _ ?_)
  refine wpAny_newFunctionEnv_cells S.kind hkind fun env he s1 x1 => ?_
  subst he
  refine ⟨lim.keeps x1.toInCall.keep, codeAny_func ?_⟩
  have I : Inv (cxOf CX0 g.P g.w g.K g.mg g.base N x (defScope st) f cdv A outer s H E0) [] (L2.start N vs) H s1 := inv_start S hr.hd e0 hl r x1
  have cok : Cok g ⟨N, defScope st, fun _ => true, k⟩ (cxOf CX0 g.P g.w g.K g.mg g.base N x (defScope st) f cdv A outer s H E0).nox :=
    ⟨rfl, rfl, rfl, rfl, rfl, rfl, rfl, rfl, S.nd, fun _ _ => rfl, hr.deeper _, hgu, rfl⟩
  have hq2 := body_ok (n := N.length) (by omega) hq rfl hsp
  refine wpAny_mono ((ht _ cok).nox.run [] s1 (L2.start N vs) H _ I hq2) (fun fl s' hs' => ?_) fun e s' hs' => hs'
  have fin : ∀ {σ' : L2.St} {H' : Hp} {v : V} {u : Value}, Inv (cxOf CX0 g.P g.w g.K g.mg g.base N x (defScope st) f cdv A outer s H E0) [] σ' H' s' → RelV v u → Q v H' → CE outer g.P g.w H s Q u s' :=
    fun {σ' H' v u} J rv q => ⟨v, H', J.os, J.bare, J.base, J.hok, rv, q⟩
  cases fl with
  | ret u =>
    obtain ⟨v, σ', H', J, rv, q⟩ := hs'
    exact fin J rv q
  | next =>
    obtain ⟨σ', H', J, q⟩ := hs'
    exact fin (v := V.non) (u := Value.none) J rfl q
  | brk =>
    obtain ⟨_, _, _, q⟩ := hs'
    exact False.elim q
  | cont =>
    obtain ⟨_, _, _, q⟩ := hs'
    exact False.elim q
theorem fn_rule {g : G0} {x : Str} {st : Stmt} {N ps : List Str} {sig : List Bool} {body : SM} {k : Nat} (D : DefAt g x st ps) (S : FnScope N ps (defScope st)) (hs : sig.length = ps.length) (hb : ESs g ⟨N, defScope st, fun _ => true, k⟩ (defBody st) body) :
    FnI g x (k + 1) ⟨runF sig N.length body, sig⟩ := by
  obtain ⟨f, fd, h1, h2, h3⟩ := D.ex
  exact ⟨f, fd, ps, h1, h2.kp, h3, fn_at h2 S hs hb⟩
end PD
namespace PD
open PySem PySem.Spec PyProof.Rows L2

/-- the law's call, behind the top: the script is the one thing that is tracked -/
theorem top_call {P : Program} {w : World} {K : PySem.W.Frag} {mg mb : Str → Option Value} {k : Nat} {fa a : Addr} {fd : FuncData} {x : Str} {sp : Sp} {s1 : Shared} {vs : List Value} {ns : List Int}
    (KX : K.In s1.heap) (hns : s1.heap.Ns mainGlobals mg) (hb : s1.heap.Ns builtinsNs mb) (hbb : ∀ x : Str, x ≠ "__name__" → mb x = bootBuiltins x) (hlim : s1.heap.NoLimit) (hg : s1.gens = #[])
    (ha : s1.heap.get? a = some { cls := .type "list", data := .seq vs.toArray }) (hi : IntsAre vs ns) (hl : ns.length ≤ sizeLine) (hr : Room k callerA)
    (F : ∀ base : Heap, K.In base → base.Ns mainGlobals mg → FnG ⟨P, w, K, mg, base⟩ k fa fd [x] sp) (hbind : ∀ (s : Shared) (u : Value), BindsTo s fd ⟨[u], []⟩ [(x, u)])
    (hsp : ∀ H : Hp, SqL K H a (ns.map V.int) → sp [.ref a] H (fun v _ => v = .bl true) E0) :
    codeAny (model P w) callerA (.call (.ref fa) ⟨[.ref a], []⟩) (fun r s' => r = .ok (.ret (.bool true)) ∧ OldK s1.heap s'.heap ∧ s'.os = s1.os ∧ AllBare s'.gens) s1 := by
  have rv := vals_ints hi
  have lv := hi.length
  have go : ∀ H : Hp, Only H → SqL K H a (ns.map V.int) → HOk P w H s1.heap → (∀ b, H b ≠ none → b = a) → (H a ≠ none → K.lookup a = none) →
      codeAny (model P w) callerA (.call (.ref fa) ⟨[.ref a], []⟩) (fun r s' => r = .ok (.ret (.bool true)) ∧ OldK s1.heap s'.heap ∧ s'.os = s1.os ∧ AllBare s'.gens) s1 := fun H hO hS hok hA hK => by
    have nd : ∀ {b : Addr} {o : Obj} {es : Array DictEntry} {ep : Nat}, s1.heap.get? b = some o → o.data = .dict es ep → H b = none := fun {b o es ep} e d => by
      by_cases q : H b = none
      · exact q
      · have e' := hA b q
        subst e'
        rw [ha] at e
        cases e
        cases d
    have nsK : ∀ {b : Addr} {m : Str → Option Value}, s1.heap.Ns b m → (hidT s1.heap H).Ns b m := fun ⟨o, es, ep, e, d, r⟩ => ⟨o, es, ep, hidT_get e (nd e d), d, r⟩
    have kb : K.In (hidT s1.heap H) := fun b o e => hidT_get (KX b o e) (by
      by_cases q : H b = none
      · exact q
      · have e' := hA b q
        subst e'
        rw [hK q] at e
        cases e)
    have md : Mod K mg (hidT s1.heap H) := ⟨kb, nsK hns, ⟨mb, nsK hb, hbb⟩, by
      obtain ⟨mc, h1, h2⟩ := hlim
      exact ⟨mc, nsK h1, h2⟩⟩
    have en : Env0 P w K mg (hidT s1.heap H) callerA [] s1 H := ⟨rfl, md, fun b o e => of_hidT e, Nat.le_of_eq (hidT_size _ _), trivial, fun b hb => absurd (show b ∈ ([] : List Addr) from hb) (by simp), hok, .of_eq hg⟩
    have run := (F _ kb (nsK hns)).run callerA [] s1 H ⟨[.ref a], []⟩ [.ref a] [.ref a] (fun v _ => v = .bl true) hr rfl en (hbind s1 (.ref a)) (.cons rfl .nil) (hsp H hS)
    refine codeAny_mono run fun r s' h => ?_
    match r, h with
    | .ok (.ret u), h =>
      obtain ⟨v, H', os, bare, un, hok', r', q⟩ := h
      obtain rfl : v = .bl true := q
      obtain rfl : u = Value.bool true := r'
      refine ⟨rfl, OldK.of_keep fun b o e => ?_, os, bare⟩
      cases q : H b with
      | none => exact un.keep b o e q (fun z => absurd (show b ∈ ([] : List Addr) from z) (by simp)) (by simp)
      | some u =>
        rcases hO b with z | ⟨ob, xs, z⟩
        · rw [q] at z
          cases z
        · obtain ⟨e1, _⟩ := hok b _ z
          obtain ⟨e2, _⟩ := hok' b _ (un.frzs b ob _ z)
          rw [e] at e1
          cases e1
          exact e2
    | .ok .next, h => exact h.elim
    | .ok .brk, h => exact h.elim
    | .ok .cont, h => exact h.elim
    | .error e, h => exact h.elim
  cases hk : K.lookup a with
  | some o =>
    have e := KX a o hk
    rw [ha] at e
    cases e
    have no : ∀ (b : Addr) (u : HO), (fun _ => none : Hp) b = some u → False := fun b u z => by cases z
    exact go (fun _ => none) (fun _ => .inl rfl) (.inr ⟨_, vs.toArray, _, hk, rfl, rfl, rfl, by rw [List.size_toArray, lv]; exact hl, by simpa using rv⟩) (fun b u z => (no b u z).elim) (fun b z => absurd rfl z) fun z => absurd rfl z
  | none =>
    let Hs : Hp := fun b => if b = a then some (.frz { cls := .type "list", data := .seq vs.toArray } (.lst (ns.map V.int))) else none
    have at_a : Hs a = some (.frz { cls := .type "list", data := .seq vs.toArray } (.lst (ns.map V.int))) := if_pos rfl
    have off : ∀ b, b ≠ a → Hs b = none := fun b h => if_neg h
    refine go Hs (fun b => ?_) (.inl (.inr ⟨_, at_a⟩)) (fun b u z => ?_) (fun b z => ?_) fun _ => hk
    · by_cases hb : b = a
      · exact .inr ⟨_, _, hb ▸ at_a⟩
      · exact .inl (off b hb)
    · by_cases hb : b = a
      · subst hb
        rw [at_a] at z
        cases z
        exact ⟨ha, by rw [List.length_map]; exact hl, vs, _, rv, ha⟩
      · rw [off b hb] at z
        cases z
    · by_cases hb : b = a
      · exact hb
      · exact absurd (off b hb) z

/-- the law is kept, if its mirror tells True of every script -/
theorem top_walk {l : PySem.W.OpenLaw} {n k : Nat} {q : Program} {loose : List Str} {XP : (Str → Option Value) → Heap → Prop} {YP : World → Heap → Prop} {d : DefRec} {K : Params → PySem.W.Frag} {x : Str} {F : Fs}
    (hn : l.most = some n) (hn2 : n ≤ sizeLine) (hdf : d.params.defaults = []) (hr : Room k callerA) (hY : ∀ (w : World) (h : Heap), YP w h → (K w.params).In h)
    (hF : ∀ (w : World) (mg : Str → Option Value) (fa : Addr) (h : Heap), (K w.params).In h → h.Ns mainGlobals mg → mg d.name = some (.ref fa) →
      ∃ fd : FuncData, (∀ (s : Shared) (u : Value), BindsTo s fd ⟨[u], []⟩ [(x, u)]) ∧ ∀ base : Heap, (K w.params).In base → base.Ns mainGlobals mg → FnG ⟨l.prog, w, K w.params, mg, base⟩ k fa fd [x] (spF (K w.params) F))
    (hsig : F.sig = [false]) (hsem : ∀ ns : List Int, ns.length ≤ n → ∃ o, F.sem [.sc ns] = some (.im (.bl true), o)) :
    PySem.W.WalkO q loose XP YP l.row.toRowW d [] (fun f vs => PySem.call f vs) := by
  refine Att.attach_call hn hdf fun w s₀ s1 mg mb fa o pm cd doc a vs ns G Y ho hd hcd hmg hobj hints hlen hg => ?_
  obtain ⟨fd, hb, hG⟩ := hF w mg fa _ (hY w _ Y) G.T.g hmg
  refine top_call (hY w _ Y) G.T.g G.T.b G.T.builtins G.T.nolimit hg hobj hints (Nat.le_trans hlen hn2) hr hG hb fun H hS => ?_
  obtain ⟨o, ho⟩ := hsem ns hlen
  have S : SR (K w.params) ⟨H, H, fun _ => none⟩ H H ([V.ref a].map some) (mkE 0 F.sig [.sc ns]) := by
    rw [hsig]
    refine ⟨rfl, Same.refl _, fun i sl ov e1 e2 => ?_, fun i j p sl sl' ne e1 e2 m1 m2 e3 e4 => ?_, fun _ _ e _ => ⟨e, .inl rfl⟩, fun b ⟨j, h⟩ => (by cases h), fun b ⟨j, h⟩ => (by cases h)⟩
    · cases i with
      | zero =>
        cases e1
        cases e2
        exact .im (.sc hS)
      | succ i => cases e1
    · cases i with
      | zero =>
        cases e1
        cases m1
      | succ i => cases e1
  refine ⟨_, H, [.sc ns], o, .im (.bl true), rfl, rfl, S, by rw [hsig]; rfl, ho, fun B' H' v _ _ h => ?_⟩
  obtain ⟨_, r⟩ := h
  cases r
  rfl
end PD
namespace PD
open PySem PySem.Spec PyProof.Rows L2

section
variable {α β : Type} {R : α → β → Prop}
theorem pr1 {a : α} {ys : List β} (h : Paired R [a] ys) : ∃ y, ys = [y] ∧ R a y := by
  cases h with
  | cons h t =>
    cases t
    exact ⟨_, rfl, h⟩
theorem pr2 {a b : α} {ys : List β} (h : Paired R [a, b] ys) : ∃ y z, ys = [y, z] ∧ R a y ∧ R b z := by
  cases h with
  | cons h t =>
    obtain ⟨z, rfl, h2⟩ := pr1 t
    exact ⟨_, _, rfl, h, h2⟩
theorem pr3 {a b c : α} {ys : List β} (h : Paired R [a, b, c] ys) : ∃ y z w, ys = [y, z, w] ∧ R a y ∧ R b z ∧ R c w := by
  cases h with
  | cons h t =>
    obtain ⟨z, w, rfl, h2, h3⟩ := pr2 t
    exact ⟨_, _, _, rfl, h, h2, h3⟩
end
section
variable {K : PySem.W.Frag} {A : Anc} {B H : Hp} {vs : L2.St} {env : Env}
/-- an answer that is no new thing -/
theorem VRp.im (S : SR K A B H vs env) {d : D} {v : V} (r : Rp K B d v) : VRp K A B H vs env (.im d) v := ⟨S, r⟩
theorem VRp.tup (S : SR K A B H vs env) {p : Addr} {xs : List V} {ds : List D} (hp : H p = none) (r : Rps K B ds xs) : ∃ B', Same B B' ∧ VRp K A B' (upd H p (.tup xs)) vs env (.im (.tup ds)) (.ref p) := by
  obtain ⟨S', s'⟩ := S.laidF (o := .tup xs) hp
  exact ⟨_, s', S', .tup upd_same (r.mono s')⟩
theorem VRp.lst (S : SR K A B H vs env) {p : Addr} {xs : List V} {ds : List D} (hp : H p = none) (r : Rps K B ds xs) : VRp K A B (upd H p (.lst xs)) vs env (.fr (.lst ds)) (.ref p) := S.push hp (.lst r)
end
theorem ok_app {x y : Str} (h : PyData.strOk x = true) (h' : PyData.strOk y = true) : PyData.strOk (x ++ y) = true := by
  show (x.cps ++ y.cps).all (· < 0x110000) = true
  rw [Array.all_append]
  exact Bool.and_eq_true_iff.mpr ⟨h, h'⟩
theorem ok_mem {x : Str} : PyData.strOk x = true ↔ ∀ c ∈ x.cps.toList, c < 0x110000 := by
  show x.cps.all (· < 0x110000) = true ↔ _
  rw [← Array.all_toList, List.all_eq_true]
  simp
theorem ok_sub {x : Str} {l : List Nat} (h : PyData.strOk x = true) (hl : ∀ c ∈ l, c ∈ x.cps.toList) : PyData.strOk ⟨l.toArray⟩ = true := ok_mem.mpr fun c hc => ok_mem.mp h c (hl c (by simpa using hc))

/-! ### + - * // % ** -/
def addD : List D → Option Vl
  | [.int i, .int j] => some (.im (.int (i + j)))
  | [.str x, .str y] => if small (x.length + y.length) = true then some (.im (.str (x ++ y))) else none
  | [.lst xs, .lst ys] => if small (xs.length + ys.length) = true then some (.fr (.lst (xs ++ ys))) else none
  | [.tup xs, .tup ys] => if (small (xs.length + ys.length) && !xs.isEmpty) = true then some (.im (.tup (xs ++ ys))) else none
  | _ => none
theorem op_addD {g : G0} : OpI g (binaryOp .Add) addD := by
  refine ⟨fun x y H Q => ((rI0 fun i j => .int (i + j)) x y H Q ∨ (∃ i j, x = .str i ∧ y = .str j ∧ i.length + j.length ≤ sizeLine ∧ Q (.str (i ++ j)) H)) ∨ (rCat x y H Q ∨ rCatT g.K x y H Q),
    fun c X hX => (op_add.or op_add_str).or (op_cat.or (by rw [← hX.eK]; exact op_catT)), fun A B H vs env xs ds res Q S rr e q => ?_⟩
  unfold addD at e
  split at e
  · cases e
    obtain ⟨x, y, rfl, r1, r2⟩ := pr2 rr
    exact .inl (.inl ⟨_, _, r1.int, r2.int, q B H _ (Same.refl _) (.im S (.int _))⟩)
  · split at e
    · rename_i hs
      cases e
      obtain ⟨x, y, rfl, r1, r2⟩ := pr2 rr
      obtain ⟨e1, o1⟩ := r1.str
      obtain ⟨e2, o2⟩ := r2.str
      exact .inl (.inr ⟨_, _, e1, e2, of_decide_eq_true hs, q B H _ (Same.refl _) (.im S (.str _ (ok_app o1 o2)))⟩)
    · cases e
  · split at e
    · rename_i hs
      cases e
      obtain ⟨x, y, rfl, r1, r2⟩ := pr2 rr
      obtain ⟨a, us, rfl, ha, ra⟩ := r1.lst S.same
      obtain ⟨b, ws, rfl, hb, rb⟩ := r2.lst S.same
      exact .inr (.inl ⟨_, _, _, _, rfl, rfl, ha, hb, by rw [← ra.length, ← rb.length]; exact of_decide_eq_true hs, fun p hp => q B _ _ (Same.refl _) (.lst S hp (ra.app rb))⟩)
    · cases e
  · split at e
    · rename_i ts us hs
      cases e
      have hs := Bool.and_eq_true_iff.mp hs
      obtain ⟨x, y, rfl, r1, r2⟩ := pr2 rr
      obtain ⟨a, us, rfl, ha, ta, ra⟩ := r1.tup S.same
      obtain ⟨b, ws, rfl, hb, tb, rb⟩ := r2.tup S.same
      have ne : us ≠ [] := fun z => by
        subst z
        cases ra
        exact absurd hs.2 (by simp)
      refine .inr (.inr ⟨a, b, us, ws, rfl, rfl, .of ha, .of hb, ne, by rw [← ra.length, ← rb.length]; exact of_decide_eq_true hs.1, fun z => ?_, fun z p hp => ?_⟩)
      · subst z
        cases rb
        rw [List.append_nil] at q
        exact q B H _ (Same.refl _) (.im S (.tup ta ra))
      · obtain ⟨B', s', v'⟩ := VRp.tup S hp (ra.app rb)
        exact q B' _ _ s' v'
    · cases e
  · cases e
def subD : List D → Option Vl
  | [.int i, .int j] => some (.im (.int (i - j)))
  | _ => none
theorem op_subD {g : G0} : OpI g (binaryOp .Sub) subD := by
  refine ⟨_, fun c X hX => op_sub, fun A B H vs env xs ds res Q S rr e q => ?_⟩
  unfold subD at e
  split at e
  · cases e
    obtain ⟨x, y, rfl, r1, r2⟩ := pr2 rr
    exact ⟨_, _, r1.int, r2.int, q B H _ (Same.refl _) (.im S (.int _))⟩
  · cases e
def s64 (i : Int) : Bool := decide (-(2 ^ 64) < i) && decide (i < 2 ^ 64)
theorem s64_ok {i : Int} (h : s64 i = true) : -(2 ^ 64) < i ∧ i < 2 ^ 64 := by
  have h := Bool.and_eq_true_iff.mp h
  exact ⟨of_decide_eq_true h.1, of_decide_eq_true h.2⟩
def in63 (k : Int) : Bool := decide (-(2 ^ 63) ≤ k) && decide (k < 2 ^ 63)
theorem in63_ok {i : Int} (h : in63 i = true) : -(2 ^ 63) ≤ i ∧ i < 2 ^ 63 := by
  have h := Bool.and_eq_true_iff.mp h
  exact ⟨of_decide_eq_true h.1, of_decide_eq_true h.2⟩
/-- a text k times -/
def timesS (x : Str) (k : Nat) : Str := ⟨((List.replicate k x.cps.toList).flatten).toArray⟩
def mulD : List D → Option Vl
  | [.int i, .int j] => if (s64 i || s64 j) = true then some (.im (.int (i * j))) else none
  | [.str x, .int k] => if (decide (1 < k) && decide (k < 1000) && small (x.length * 1000)) = true then some (.im (.str (timesS x k.toNat))) else none
  | [.lst xs, .int k] => if (in63 k && small (xs.length * k.toNat)) = true then some (.fr (.lst (List.replicate k.toNat xs).flatten)) else none
  | [.tup xs, .int k] => if (!xs.isEmpty && decide (2 ≤ k) && decide (k ≤ 1000) && decide (xs.length ≤ 1000)) = true then some (.im (.tup (List.replicate k.toNat xs).flatten)) else none
  | _ => none
theorem rep_fold : ∀ (k : Nat) (a acc : Array Nat), (List.replicate k a).foldl (· ++ ·) acc = acc ++ ((List.replicate k a.toList).flatten).toArray
  | 0, a, acc => by simp
  | k + 1, a, acc => by
    rw [List.replicate_succ, List.replicate_succ, List.foldl_cons, rep_fold k a, List.flatten_cons]
    rw [Array.append_assoc]
    congr 1
    apply Array.ext'
    simp
def rRepS : R2 := fun x y H Q => ∃ z k, x = .str z ∧ y = .int k ∧ 1 < k ∧ k < 1000 ∧ z.length * 1000 ≤ sizeLine ∧ Q (.str (timesS z k.toNat)) H
theorem op_repS {X : Cx} : OpR X (binaryOp .Mult) rRepS := by
  intro pins s σ H x y v u Q I rx ry h
  obtain ⟨z, k, rfl, rfl, h1, h2, hz, q⟩ := h
  obtain ⟨t, rfl⟩ := rx
  obtain ⟨t', rfl⟩ := ry
  have zl : z.length * k.toNat ≤ sizeLine := Nat.le_trans (Nat.mul_le_mul_left _ (by omega)) hz
  have e0 : timesS z k.toNat = ⟨(List.replicate k.toNat z.cps).foldl (· ++ ·) #[]⟩ := by
    rw [rep_fold]
    simp [timesS]
  have fits : (timesS z k.toNat).length ≤ sizeLine := by
    have : (timesS z k.toNat).length = k.toNat * z.length := by
      show ((List.replicate k.toNat z.cps.toList).flatten).toArray.size = _
      simp [Str.length]
    rw [this, Nat.mul_comm]
    exact zl
  refine PySem.P.mul_str (by rw [Bool.or_eq_false_iff]; exact ⟨decide_eq_false (by omega), decide_eq_false (by omega)⟩) (fun _ _ => ?_) (fun _ _ => ?_) ?_
  · have h9 : sizeLine = 16777216 := rfl
    have h3 : (1000 : Int) ≤ 9223372036854775807 / 1000 := by decide
    have h5 : (2 : Int) ^ 63 - 1 = 9223372036854775807 := by decide
    rw [h5]
    have h6 : (z.length : Int) ≤ 16777 := by omega
    have h7 : (16777 : Int) ≤ 9223372036854775807 / k := by
      rw [Int.le_ediv_iff_mul_le (by omega)]
      have : (16777 : Int) * k ≤ 16777 * 1000 := Int.mul_le_mul_of_nonneg_left (by omega) (by decide)
      omega
    omega
  · exact decide_eq_false (by omega)
  · rw [if_neg (by omega)]
    split
    · rename_i hc
      rcases Bool.or_eq_true_iff.mp hc with hc | hc
      · have : k = 1 := by simpa using hc
        omega
      · have hz0 : z.length = 0 := by simpa using hc
        have : timesS z k.toNat = z := by
          have : z = ⟨#[]⟩ := by
            obtain ⟨c⟩ := z
            have : c = #[] := by simpa [Str.length] using hz0
            rw [this]
          rw [this]
          simp [timesS]
        rw [this] at q
        exact ⟨.str z, H, I, ⟨_, rfl⟩, q⟩
    · rw [← e0]
      exact ⟨fits, ⟨.str _, H, I.tok _, ⟨_, rfl⟩, q⟩⟩
theorem ok_times {x : Str} {k : Nat} (h : PyData.strOk x = true) : PyData.strOk (timesS x k) = true := ok_sub h fun c hc => by
  obtain ⟨l, h1, h2⟩ := List.mem_flatten.mp hc
  rw [(List.mem_replicate.mp h1).2] at h2
  exact h2
theorem op_mulD {g : G0} : OpI g (binaryOp .Mult) mulD := by
  refine ⟨fun x y H Q => ((rI CMul fun i j => .int (i * j)) x y H Q ∨ rRepS x y H Q) ∨ (rRep x y H Q ∨ rRepT g.K x y H Q),
    fun c X hX => (op_mul.or op_repS).or (op_rep.or (by rw [← hX.eK]; exact op_repT)), fun A B H vs env xs ds res Q S rr e q => ?_⟩
  unfold mulD at e
  split at e
  · split at e
    · rename_i hs
      cases e
      obtain ⟨x, y, rfl, r1, r2⟩ := pr2 rr
      have hs := Bool.or_eq_true_iff.mp hs
      exact .inl (.inl ⟨_, _, r1.int, r2.int, hs.elim (fun z => .inl (s64_ok z)) (fun z => .inr (s64_ok z)), q B H _ (Same.refl _) (.im S (.int _))⟩)
    · cases e
  · split at e
    · rename_i hs
      cases e
      obtain ⟨x, y, rfl, r1, r2⟩ := pr2 rr
      simp only [Bool.and_eq_true, decide_eq_true_eq] at hs
      obtain ⟨e1, o1⟩ := r1.str
      exact .inl (.inr ⟨_, _, e1, r2.int, hs.1.1, hs.1.2, of_decide_eq_true hs.2, q B H _ (Same.refl _) (.im S (.str _ (ok_times o1)))⟩)
    · cases e
  · split at e
    · rename_i hs
      cases e
      obtain ⟨x, y, rfl, r1, r2⟩ := pr2 rr
      have hs := Bool.and_eq_true_iff.mp hs
      obtain ⟨a, us, rfl, ha, ra⟩ := r1.lst S.same
      obtain ⟨g1, g2⟩ := in63_ok hs.1
      exact .inr (.inl ⟨_, _, _, rfl, r2.int, ha, g1, g2, by rw [← ra.length]; exact of_decide_eq_true hs.2, fun p hp => q B _ _ (Same.refl _) (.lst S hp (ra.repl _))⟩)
    · cases e
  · split at e
    · rename_i hs
      cases e
      obtain ⟨x, y, rfl, r1, r2⟩ := pr2 rr
      simp only [Bool.and_eq_true, decide_eq_true_eq] at hs
      obtain ⟨a, us, rfl, ha, ta, ra⟩ := r1.tup S.same
      have ne : us ≠ [] := fun z => by
        subst z
        cases ra
        exact absurd hs.1.1.1 (by simp)
      refine .inr (.inr ⟨a, _, us, rfl, r2.int, .of ha, ne, hs.1.1.2, hs.1.2, by rw [← ra.length]; exact hs.2, fun p hp => ?_⟩)
      obtain ⟨B', s', v'⟩ := VRp.tup S hp (ra.repl _)
      exact q B' _ _ s' v'
    · cases e
  · cases e
def divD : List D → Option Vl
  | [.int i, .int j] => if (decide (j ≠ 0) && decide (j.natAbs < 1073741824)) = true then some (.im (.int (i.fdiv j))) else none
  | _ => none
theorem op_divD {g : G0} : OpI g (binaryOp .FloorDiv) divD := by
  refine ⟨_, fun c X hX => op_fdivN, fun A B H vs env xs ds res Q S rr e q => ?_⟩
  unfold divD at e
  split at e
  · split at e
    · rename_i hs
      cases e
      obtain ⟨x, y, rfl, r1, r2⟩ := pr2 rr
      have hs := Bool.and_eq_true_iff.mp hs
      exact ⟨_, _, r1.int, r2.int, ⟨of_decide_eq_true hs.1, of_decide_eq_true hs.2⟩, q B H _ (Same.refl _) (.im S (.int _))⟩
    · cases e
  · cases e
def modD : List D → Option Vl
  | [.int i, .int j] => if decide (j ≠ 0) = true then some (.im (.int (i.fmod j))) else none
  | _ => none
theorem op_modD {g : G0} : OpI g (binaryOp .Mod) modD := by
  refine ⟨_, fun c X hX => op_modN, fun A B H vs env xs ds res Q S rr e q => ?_⟩
  unfold modD at e
  split at e
  · split at e
    · rename_i hs
      cases e
      obtain ⟨x, y, rfl, r1, r2⟩ := pr2 rr
      exact ⟨_, _, r1.int, r2.int, of_decide_eq_true hs, q B H _ (Same.refl _) (.im S (.int _))⟩
    · cases e
  · cases e
def powD : List D → Option Vl
  | [.int i, .int j] => if (decide (0 ≤ j) && decide (j ≤ 1000000) && decide (i.natAbs < 2 ^ 64)) = true then some (.im (.int (i ^ j.toNat))) else none
  | _ => none
theorem op_powD {g : G0} : OpI g (binaryOp .Pow) powD := by
  refine ⟨_, fun c X hX => op_pow, fun A B H vs env xs ds res Q S rr e q => ?_⟩
  unfold powD at e
  split at e
  · split at e
    · rename_i hs
      cases e
      obtain ⟨x, y, rfl, r1, r2⟩ := pr2 rr
      simp only [Bool.and_eq_true, decide_eq_true_eq] at hs
      exact ⟨_, _, r1.int, r2.int, ⟨hs.1.1, hs.1.2, hs.2⟩, q B H _ (Same.refl _) (.im S (.int _))⟩
    · cases e
  · cases e
def negD : List D → Option Vl
  | [.int i] => some (.im (.int (-i)))
  | _ => none
theorem un_negD {g : G0} : UnI g (unaryOp .USub) negD := by
  refine ⟨_, fun c X hX => un_neg, fun A B H vs env xs ds res Q S rr e q => ?_⟩
  unfold negD at e
  split at e
  · cases e
    obtain ⟨x, rfl, r1⟩ := pr1 rr
    exact ⟨_, r1.int, q B H _ (Same.refl _) (.im S (.int _))⟩
  · cases e
end PD
namespace PD
open PySem PySem.Spec PyProof.Rows L2

/-! ### data that == looks at -/
mutual
def D.py : D → PyData
  | .non => .none
  | .bl b => .bool b
  | .int i => .int i
  | .str x => .str x
  | .tup ds => .tuple (pys ds)
  | .lst ds => .list (pys ds)
  | .dk _ => .none
  | .dt _ => .none
  | .sc _ => .none
  | .ty _ => .none
  | .txt _ => .none
  | .tp ds => .tuple (pys ds)
def pys : List D → List PyData
  | [] => []
  | d :: ds => d.py :: pys ds
end
mutual
def D.isPy : D → Bool
  | .non => true
  | .bl _ => true
  | .int _ => true
  | .str _ => true
  | .tup ds => arePy ds
  | .lst ds => arePy ds
  | .dk _ => false
  | .dt _ => false
  | .sc _ => false
  | .ty _ => false
  | .txt _ => false
  | .tp ds => arePy ds
def arePy : List D → Bool
  | [] => true
  | d :: ds => d.isPy && arePy ds
end
theorem pys_map : ∀ ds : List D, pys ds = ds.map D.py
  | [] => rfl
  | d :: ds => by
    show d.py :: pys ds = _
    rw [pys_map ds]
    rfl
theorem arePy_all : ∀ ds : List D, arePy ds = ds.all D.isPy
  | [] => rfl
  | d :: ds => by
    show (d.isPy && arePy ds) = _
    rw [arePy_all ds]
    rfl
section
variable {K : PySem.W.Frag} {B H : Hp}
mutual
theorem Rp.dp (s : Same B H) : ∀ {d : D} {v : V}, d.isPy = true → Rp K B d v → Dp K H v d.py
  | _, _, _, .non => by simp only [D.py]; exact .non
  | _, _, _, .bl b => by simp only [D.py]; exact .bl b
  | _, _, _, .int i => by simp only [D.py]; exact .int i
  | _, _, _, .str x h => by simp only [D.py]; exact .str x
  | _, _, n, .tup h r => by
    simp only [D.py]
    exact .tup (h.same s).sq (Rps.dp s (by simpa [D.isPy] using n) r)
  | _, _, n, .lst h r => by
    simp only [D.py]
    exact .lst (.of (s _ _ h)) (Rps.dp s (by simpa [D.isPy] using n) r)
  | _, _, n, .dk _ _ _ => by simp [D.isPy] at n
  | _, _, n, .dt _ _ _ => by simp [D.isPy] at n
  | _, _, n, .sc _ => by simp [D.isPy] at n
  | _, _, n, .ty _ => by simp [D.isPy] at n
  | _, _, n, .txt _ => by simp [D.isPy] at n
  | _, _, n, .tp h _ r => by
    simp only [D.py]
    exact .tup (.inl (.inr ⟨_, s _ _ h⟩)) (Rps.dp s (by simpa [D.isPy] using n) r)
theorem Rps.dp (s : Same B H) : ∀ {ds : List D} {vs : List V}, arePy ds = true → Rps K B ds vs → DpAll K H vs (pys ds)
  | _, _, _, .nil => by simp only [pys]; exact .nil
  | d :: ds, _, n, .cons h r => by
    have n : d.isPy = true ∧ arePy ds = true := by simpa [arePy] using n
    simp only [pys]
    exact .cons (Rp.dp s n.1 h) (Rps.dp s n.2 r)
end
mutual
theorem Rp.lay : ∀ {d : D} {v : V}, Rp K B d v → d.py.canLay0 = true
  | _, _, .non => by simp [D.py, PyData.canLay0]
  | _, _, .bl b => by simp [D.py, PyData.canLay0]
  | _, _, .int i => by simp [D.py, PyData.canLay0]
  | _, _, .str x h => by simpa [D.py, PyData.canLay0] using h
  | _, _, .tup h r => by simpa [D.py, PyData.canLay0] using Rps.lay r
  | _, _, .lst h r => by simpa [D.py, PyData.canLay0] using Rps.lay r
  | _, _, .dk _ _ _ => by simp [D.py, PyData.canLay0]
  | _, _, .dt _ _ _ => by simp [D.py, PyData.canLay0]
  | _, _, .sc _ => by simp [D.py, PyData.canLay0]
  | _, _, .ty _ => by simp [D.py, PyData.canLay0]
  | _, _, .txt _ => by simp [D.py, PyData.canLay0]
  | _, _, .tp _ _ r => by simpa [D.py, PyData.canLay0] using Rps.lay r
theorem Rps.lay : ∀ {ds : List D} {vs : List V}, Rps K B ds vs → PyData.canLayAll0 (pys ds) = true
  | _, _, .nil => by simp [pys, PyData.canLayAll0]
  | _, _, .cons h r => by simp [pys, PyData.canLayAll0, Rp.lay h, Rps.lay r]
end
theorem Rr.dp {d : D} {v : V} (s : Same B H) (n : d.isPy = true) (h : Rr K B H d v) : Dp K H v d.py := by
  cases h with
  | fz r => exact r.dp s n
  | ct c =>
    rename_i p
    generalize e : H p = o at c
    cases c with
    | lst r =>
      simp only [D.py]
      exact .lst (.of e) (r.dp s (by simpa [D.isPy] using n))
    | dk _ _ => simp [D.isPy] at n
    | dt _ _ => simp [D.isPy] at n
theorem Rr.lay {d : D} {v : V} (h : Rr K B H d v) : d.py.canLay0 = true := by
  cases h with
  | fz r => exact r.lay
  | ct c =>
    rename_i p
    generalize e : H p = o at c
    cases c with
    | lst r => simpa [D.py, PyData.canLay0] using r.lay
    | dk _ _ => simp [D.py, PyData.canLay0]
    | dt _ _ => simp [D.py, PyData.canLay0]
end
/-- no deeper than n -/
def depB (n : Nat) (d : D) : Bool := decide (d.py.depth ≤ n)

/-! ### == and != -/
def eqB (d e : D) : Bool := PyData.eqv d.py e.py
theorem Rr.txt {K : PySem.W.Frag} {B H : Hp} {x : Str} {v : V} (h : Rr K B H (.txt x) v) : v = .str x := by
  cases h with
  | fz r => cases r; rfl
  | ct c =>
    rename_i p
    generalize e : H p = o at c
    cases c
def eqD : List D → Option Vl
  | [.txt x, .txt y] => some (.im (.bl (decide (x = y))))
  | [d, e] => if (d.isPy && e.isPy && (depB 64 d || depB 64 e)) = true then some (.im (.bl (eqB d e))) else none
  | _ => none
def neD : List D → Option Vl
  | [.txt x, .txt y] => some (.im (.bl (!decide (x = y))))
  | [d, e] => if (d.isPy && e.isPy && (depB 64 d || depB 64 e)) = true then some (.im (.bl (!eqB d e))) else none
  | _ => none
def rEqA (K : PySem.W.Frag) : R2 := fun x y H Q => ∃ d e, Dp K H x d ∧ Dp K H y e ∧ d.canLay0 = true ∧ e.canLay0 = true ∧ min d.depth e.depth ≤ 64 ∧ Q (.bl (PyData.eqv d e)) H
def rNeA (K : PySem.W.Frag) : R2 := fun x y H Q => ∃ d e, Dp K H x d ∧ Dp K H y e ∧ d.canLay0 = true ∧ e.canLay0 = true ∧ min d.depth e.depth ≤ 64 ∧ Q (.bl (!PyData.eqv d e)) H
theorem op_eqA {X : Cx} (hu : X.A.units + 64 < cLine) : OpR X (compareOp .Eq) (rEqA X.K) := by
  intro pins s σ H x y v u Q I rx ry h
  obtain ⟨d, e, hd, he, sd, se, hm, q⟩ := h
  obtain ⟨as, r1⟩ := Dp.reads I d x v hd rx
  obtain ⟨bs, r2⟩ := Dp.reads I e y u he ry
  exact SeqAt.compareEq_reads r1 r2 sd se (by omega) ⟨.bl _, H, I, rfl, q⟩
theorem op_neA {X : Cx} (hu : X.A.units + 64 < cLine) : OpR X (compareOp .NotEq) (rNeA X.K) := by
  intro pins s σ H x y v u Q I rx ry h
  obtain ⟨d, e, hd, he, sd, se, hm, q⟩ := h
  obtain ⟨as, r1⟩ := Dp.reads I d x v hd rx
  obtain ⟨bs, r2⟩ := Dp.reads I e y u he ry
  exact SeqAt.compareNe_reads r1 r2 sd se (by omega) ⟨.bl _, H, I, rfl, q⟩
theorem dep_min {d e : D} (h : (depB 64 d || depB 64 e) = true) : min d.py.depth e.py.depth ≤ 64 := by
  rcases Bool.or_eq_true_iff.mp h with h | h
  · have := of_decide_eq_true h
    omega
  · have := of_decide_eq_true h
    omega
theorem op_eqD' {g : G0} : OpI g (compareOp .Eq) eqD := by
  refine ⟨fun x y H Q => rEqA g.K x y H Q ∨ rEq x y H Q, fun c X hX => by rw [← hX.eK]; exact (op_eqA hX.room.units).or op_eq, fun A B H vs env xs ds res Q S rr e q => ?_⟩
  unfold eqD at e
  split at e
  · cases e
    obtain ⟨x, y, rfl, r1, r2⟩ := pr2 rr
    rw [r1.txt, r2.txt]
    refine .inr ⟨rfl, ?_⟩
    rw [show decide (V.str _ = V.str _) = decide _ from decide_eq_decide.mpr ⟨fun z => V.str.inj z, fun z => congrArg V.str z⟩]
    exact q B H _ (Same.refl _) (.im S (.bl _))
  · split at e
    · rename_i hs
      cases e
      obtain ⟨x, y, rfl, r1, r2⟩ := pr2 rr
      obtain ⟨hs, h3⟩ := Bool.and_eq_true_iff.mp hs
      obtain ⟨h1, h2⟩ := Bool.and_eq_true_iff.mp hs
      exact .inl ⟨_, _, r1.dp S.same h1, r2.dp S.same h2, r1.lay, r2.lay, dep_min h3, q B H _ (Same.refl _) (.im S (.bl _))⟩
    · cases e
  · cases e
theorem op_neD' {g : G0} : OpI g (compareOp .NotEq) neD := by
  refine ⟨fun x y H Q => rNeA g.K x y H Q ∨ rNe x y H Q, fun c X hX => by rw [← hX.eK]; exact (op_neA hX.room.units).or op_ne, fun A B H vs env xs ds res Q S rr e q => ?_⟩
  unfold neD at e
  split at e
  · cases e
    obtain ⟨x, y, rfl, r1, r2⟩ := pr2 rr
    rw [r1.txt, r2.txt]
    refine .inr ⟨rfl, ?_⟩
    rw [show decide (V.str _ = V.str _) = decide _ from decide_eq_decide.mpr ⟨fun z => V.str.inj z, fun z => congrArg V.str z⟩]
    exact q B H _ (Same.refl _) (.im S (.bl _))
  · split at e
    · rename_i hs
      cases e
      obtain ⟨x, y, rfl, r1, r2⟩ := pr2 rr
      obtain ⟨hs, h3⟩ := Bool.and_eq_true_iff.mp hs
      obtain ⟨h1, h2⟩ := Bool.and_eq_true_iff.mp hs
      exact .inl ⟨_, _, r1.dp S.same h1, r2.dp S.same h2, r1.lay, r2.lay, dep_min h3, q B H _ (Same.refl _) (.im S (.bl _))⟩
    · cases e
  · cases e

/-! ### < <= > >= of ints and of texts -/
def ltStr (x y : Str) : Bool := decide (x.cps.toList < y.cps.toList)
def ltD : List D → Option Vl
  | [.int i, .int j] => some (.im (.bl (decide (i < j))))
  | [.str x, .str y] => some (.im (.bl (ltStr x y)))
  | _ => none
theorem op_ltD {g : G0} : OpI g (compareOp .Lt) ltD := by
  refine ⟨_, fun c X hX => op_lt.or op_lt_str, fun A B H vs env xs ds res Q S rr e q => ?_⟩
  unfold ltD at e
  split at e
  · cases e
    obtain ⟨x, y, rfl, r1, r2⟩ := pr2 rr
    exact .inl ⟨_, _, r1.int, r2.int, q B H _ (Same.refl _) (.im S (.bl _))⟩
  · cases e
    obtain ⟨x, y, rfl, r1, r2⟩ := pr2 rr
    exact .inr ⟨_, _, r1.str.1, r2.str.1, q B H _ (Same.refl _) (.im S (.bl _))⟩
  · cases e
def leD : List D → Option Vl
  | [.int i, .int j] => some (.im (.bl (decide (i ≤ j))))
  | _ => none
theorem op_leD {g : G0} : OpI g (compareOp .LtE) leD := by
  refine ⟨_, fun c X hX => op_le, fun A B H vs env xs ds res Q S rr e q => ?_⟩
  unfold leD at e
  split at e
  · cases e
    obtain ⟨x, y, rfl, r1, r2⟩ := pr2 rr
    exact ⟨_, _, r1.int, r2.int, q B H _ (Same.refl _) (.im S (.bl _))⟩
  · cases e
def gtD : List D → Option Vl
  | [.int i, .int j] => some (.im (.bl (decide (j < i))))
  | _ => none
theorem op_gtD {g : G0} : OpI g (compareOp .Gt) gtD := by
  refine ⟨_, fun c X hX => op_gt, fun A B H vs env xs ds res Q S rr e q => ?_⟩
  unfold gtD at e
  split at e
  · cases e
    obtain ⟨x, y, rfl, r1, r2⟩ := pr2 rr
    exact ⟨_, _, r1.int, r2.int, q B H _ (Same.refl _) (.im S (.bl _))⟩
  · cases e
def geD : List D → Option Vl
  | [.int i, .int j] => some (.im (.bl (decide (j ≤ i))))
  | _ => none
theorem op_geD {g : G0} : OpI g (compareOp .GtE) geD := by
  refine ⟨_, fun c X hX => op_ge, fun A B H vs env xs ds res Q S rr e q => ?_⟩
  unfold geD at e
  split at e
  · cases e
    obtain ⟨x, y, rfl, r1, r2⟩ := pr2 rr
    exact ⟨_, _, r1.int, r2.int, q B H _ (Same.refl _) (.im S (.bl _))⟩
  · cases e

/-! ### is, is not -/
def isD : List D → Option Vl
  | [d, .non] => match d with
    | .non => some (.im (.bl true))
    | _ => some (.im (.bl false))
  | [.bl a, .bl b] => some (.im (.bl (decide (a = b))))
  | _ => none
def D.isNon : D → Bool
  | .non => true
  | _ => false
theorem Rr.nonq {K : PySem.W.Frag} {B H : Hp} {d : D} {v : V} (h : Rr K B H d v) : decide (v = .non) = d.isNon := by
  cases h with
  | fz r => cases r <;> simp [D.isNon]
  | ct c =>
    rename_i p
    generalize e : H p = o at c
    cases c <;> simp [D.isNon]
theorem op_isD {g : G0} : OpI g (compareOp .Is) isD := by
  refine ⟨_, fun c X hX => op_isN.or op_isBl, fun A B H vs env xs ds res Q S rr e q => ?_⟩
  unfold isD at e
  split at e
  · rename_i d
    obtain ⟨x, y, rfl, r1, r2⟩ := pr2 rr
    refine .inl ⟨r2.non, ?_⟩
    rw [r1.nonq]
    cases d <;> (cases e; exact q B H _ (Same.refl _) (.im S (.bl _)))
  · cases e
    obtain ⟨x, y, rfl, r1, r2⟩ := pr2 rr
    exact .inr ⟨_, _, r1.bl, r2.bl, q B H _ (Same.refl _) (.im S (.bl _))⟩
  · cases e
def isnD : List D → Option Vl
  | [d, .non] => match d with
    | .non => some (.im (.bl false))
    | _ => some (.im (.bl true))
  | [.bl a, .bl b] => some (.im (.bl (!decide (a = b))))
  | _ => none
theorem op_isnD {g : G0} : OpI g (compareOp .IsNot) isnD := by
  refine ⟨_, fun c X hX => op_notN.or op_notBl, fun A B H vs env xs ds res Q S rr e q => ?_⟩
  unfold isnD at e
  split at e
  · rename_i d
    obtain ⟨x, y, rfl, r1, r2⟩ := pr2 rr
    refine .inl ⟨r2.non, ?_⟩
    rw [r1.nonq]
    cases d <;> (cases e; exact q B H _ (Same.refl _) (.im S (.bl _)))
  · cases e
    obtain ⟨x, y, rfl, r1, r2⟩ := pr2 rr
    exact .inr ⟨_, _, r1.bl, r2.bl, q B H _ (Same.refl _) (.im S (.bl _))⟩
  · cases e

/-! ### keys -/
def keyD : D → Option Key
  | .int i => some (.inl i)
  | .str x => some (.inr x)
  | _ => none
def keysD : List D → Option (List Key)
  | [] => some []
  | d :: ds => match keyD d, keysD ds with
    | some k, some ks => some (k :: ks)
    | _, _ => none
def getK {κ : Type} [DecidableEq κ] (es : List (κ × D)) (k : κ) : Option D := (es.find? fun e => decide (e.1 = k)).map (·.2)
section
variable {K : PySem.W.Frag} {B H : Hp}
theorem Rr.key {d : D} {v : V} {k : Key} (h : Rr K B H d v) (e : keyD d = some k) : v = kV k := by
  cases d with
  | int i =>
    cases e
    exact h.int
  | str x =>
    cases e
    exact h.str.1
  | _ => cases e
theorem Rps.keys : ∀ {ds : List D} {vs : List V} {ks : List Key}, Rps K B ds vs → keysD ds = some ks → vs = ks.map kV
  | _, _, ks, .nil, e => by
    cases e
    rfl
  | d :: ds, v :: vs, ks, .cons h r, e => by
    unfold keysD at e
    split at e
    · rename_i k ks' h1 h2
      cases e
      rw [Rr.key (H := B) (.fz h) h1, Rps.keys r h2]
      rfl
    · cases e
theorem getK_val {κ : Type} [DecidableEq κ] {k : κ} : ∀ {es : List (κ × D)} {kvs : List (κ × V)}, es.map (·.1) = kvs.map (·.1) → Rps K B (es.map (·.2)) (kvs.map (·.2)) →
    (∀ d, getK es k = some d → ∃ v, valV kvs k = some v ∧ Rp K B d v) ∧ (getK es k = none → valV kvs k = none)
  | [], [], _, _ => ⟨fun d h => by simp [getK] at h, fun _ => rfl⟩
  | [], _ :: _, e, _ => by simp at e
  | _ :: _, [], e, _ => by simp at e
  | p :: es, q :: kvs, e, r => by
    have e1 : p.1 = q.1 ∧ es.map (·.1) = kvs.map (·.1) := by simpa using e
    cases r with
    | cons r1 r2 =>
      by_cases hk : p.1 = k
      · have g1 : getK (p :: es) k = some p.2 := by simp [getK, hk]
        have g2 : valV (q :: kvs) k = some q.2 := valV_pos (e1.1 ▸ hk)
        rw [g1, g2]
        exact ⟨fun d h => by cases h; exact ⟨_, rfl, r1⟩, fun h => by cases h⟩
      · have g1 : getK (p :: es) k = getK es k := by simp [getK, hk]
        have g2 : valV (q :: kvs) k = valV kvs k := valV_neg (fun z => hk (e1.1.trans z))
        rw [g1, g2]
        exact getK_val e1.2 r2
end

/-! ### in, not in -/
def flatD : D → Bool
  | .non => true
  | .bl _ => true
  | .int _ => true
  | .str _ => true
  | _ => false
section
variable {K : PySem.W.Frag} {B H : Hp}
theorem Rp.flat {d : D} {v : V} (h : Rp K B d v) (f : flatD d = true) : flatV v = true := by
  cases h <;> first | rfl | cases f
theorem Rp.eqf {d e : D} {v u : V} (h : Rp K B d v) (h' : Rp K B e u) (f : flatD d = true) (f' : flatD e = true) : eqV v u = eqB d e := by
  cases h <;> (first | (cases f; done) | (cases h' <;> first | (cases f'; done) | (simp [eqV, eqB, D.py, PyData.eqv])))
theorem Rr.flat {d : D} {v : V} (h : Rr K B H d v) (f : flatD d = true) : Rp K B d v := by
  cases h with
  | fz r => exact r
  | ct c =>
    rename_i p
    generalize e : H p = o at c
    cases c <;> cases f
theorem Rps.flats : ∀ {ds : List D} {vs : List V}, Rps K B ds vs → ds.all flatD = true → vs.all flatV = true
  | _, _, .nil, _ => rfl
  | d :: ds, _, .cons h r, f => by
    have f : flatD d = true ∧ ds.all flatD = true := by simpa using f
    rw [List.all_cons, h.flat f.1, Rps.flats r f.2]
    rfl
theorem Rps.inf {e : D} {u : V} (h' : Rp K B e u) (f' : flatD e = true) : ∀ {ds : List D} {vs : List V}, Rps K B ds vs → ds.all flatD = true → inV u vs = ds.any fun d => eqB d e
  | _, _, .nil, _ => rfl
  | d :: ds, v :: vs, .cons h r, f => by
    have f : flatD d = true ∧ ds.all flatD = true := by simpa using f
    have ih := Rps.inf h' f' r f.2
    unfold inV at ih ⊢
    rw [List.any_cons, List.any_cons, ih, h.eqf h' f.1 f']
end
def depsB (n : Nat) (ds : List D) : Bool := decide (PyData.depthAll (pys ds) ≤ n)
def inB : List D → Option Bool
  | [.str x, .str y] => some (Txt.contains y x)
  | [d, .lst ds] => if (d.isPy && arePy ds && depB 64 d && depsB 63 ds) = true then some (ds.any fun z => eqB z d) else none
  | [d, .tup ds] => if (flatD d && ds.all flatD) = true then some (ds.any fun z => eqB z d) else none
  | [d, .dk es] => match keyD d with
    | some k => some (getK es k).isSome
    | none => none
  | [.tup ds, .dt es] => match keysD ds with
    | some k => some (getK es k).isSome
    | none => none
  | _ => none
def inD (ds : List D) : Option Vl := (inB ds).map fun b => .im (.bl b)
def notInD (ds : List D) : Option Vl := (inB ds).map fun b => .im (.bl (!b))
def rInAny (K : PySem.W.Frag) (neg : Bool) : R2 := fun x y H Q =>
  ((∃ i j, x = .str i ∧ y = .str j ∧ Q (.bl (if neg then !Txt.contains j i else Txt.contains j i)) H) ∨ (∃ d ds, Dp K H x d ∧ Dp K H y (.list ds) ∧ SeqAt.shaped d = true ∧ SeqAt.shaped (.list ds) = true ∧ Q (.bl (if neg then !(ds.any fun z => PyData.eqv z d) else ds.any fun z => PyData.eqv z d)) H)) ∨
  (rIn K neg x y H Q ∨ ∃ a ov, y = .ref a ∧ DGet H a x ov ∧ Q (.bl (if neg then !ov.isSome else ov.isSome)) H)
theorem op_inAny {X : Cx} (hu : X.A.units + 65 < cLine) : OpR X (compareOp .In) (rInAny X.K false) := by
  refine (OpR.or ?_ ?_).or (OpR.or op_in_seq ?_)
  · exact op_in_str
  · exact op_inD hu
  · intro pins s σ H x y v u Q I rx ry h
    obtain ⟨a, ov, rfl, gd, q⟩ := h
    obtain rfl : u = Value.ref a := ry
    exact d_in (by omega) I gd rx fun s' I' => ⟨.bl _, H, I', rfl, q⟩
theorem op_notInAny {X : Cx} (hu : X.A.units + 65 < cLine) : OpR X (compareOp .NotIn) (rInAny X.K true) := by
  refine (OpR.or ?_ ?_).or (OpR.or op_notIn_seq ?_)
  · exact op_notIn_str
  · exact op_notInD hu
  · intro pins s σ H x y v u Q I rx ry h
    obtain ⟨a, ov, rfl, gd, q⟩ := h
    obtain rfl : u = Value.ref a := ry
    exact d_notIn (by omega) I gd rx fun s' I' => ⟨.bl _, H, I', rfl, q⟩
theorem pys_any (d : D) : ∀ ds : List D, ((pys ds).any fun z => PyData.eqv z d.py) = ds.any fun z => eqB z d
  | [] => rfl
  | e :: ds => by
    show (PyData.eqv e.py d.py || (pys ds).any _) = _
    rw [pys_any d ds]
    rfl
theorem inAny_ok {K : PySem.W.Frag} {A : Anc} {B H : Hp} {vs : L2.St} {env : Env} {neg : Bool} {xs : List V} {ds : List D} {b : Bool} {Q : VK} (S : SR K A B H vs env) (rr : Paired (Rr K B H) ds xs) (e : inB ds = some b)
    (q : Q (.bl (if neg = true then !b else b)) H) : on2 (rInAny K neg) xs H Q := by
  unfold inB at e
  split at e
  · cases e
    obtain ⟨x, y, rfl, r1, r2⟩ := pr2 rr
    exact .inl (.inl ⟨_, _, r1.str.1, r2.str.1, q⟩)
  · rename_i d es
    split at e
    · rename_i hs
      cases e
      simp only [Bool.and_eq_true] at hs
      obtain ⟨x, y, rfl, r1, r2⟩ := pr2 rr
      have h2 := r2.dp S.same (by simpa [D.isPy] using hs.1.1.2)
      have l2 := r2.lay
      simp only [D.py] at h2 l2
      refine .inl (.inr ⟨d.py, pys es, r1.dp S.same hs.1.1.1, h2, ?_, ?_, ?_⟩)
      · exact Bool.and_eq_true_iff.mpr ⟨r1.lay, hs.1.2⟩
      · refine Bool.and_eq_true_iff.mpr ⟨l2, decide_eq_true ?_⟩
        have := of_decide_eq_true hs.2
        simp only [PyData.depth]
        omega
      · rw [pys_any]
        exact q
    · cases e
  · rename_i d es _
    split at e
    · rename_i hs
      cases e
      have hs := Bool.and_eq_true_iff.mp hs
      obtain ⟨x, y, rfl, r1, r2⟩ := pr2 rr
      obtain ⟨a, us, rfl, ha, ta, ra⟩ := r2.tup S.same
      have r1' := r1.flat hs.1
      refine .inr (.inl ⟨a, us, rfl, .inr (.of ha), r1'.flat hs.1, ra.flats hs.2, ?_⟩)
      rw [Rps.inf r1' hs.1 ra hs.2]
      exact q
    · cases e
  · rename_i d es
    split at e
    · rename_i k hk
      cases e
      obtain ⟨x, y, rfl, r1, r2⟩ := pr2 rr
      obtain ⟨a, kvs, rfl, ha, he, hr⟩ := r2.dk S.same
      rw [r1.key hk]
      refine .inr (.inr ⟨a, valV kvs k, rfl, .k ha, ?_⟩)
      obtain ⟨g1, g2⟩ := getK_val (k := k) he hr
      cases hg : getK es k with
      | none =>
        rw [g2 hg]
        rw [hg] at q
        exact q
      | some d' =>
        obtain ⟨v', h1, _⟩ := g1 d' hg
        rw [h1]
        rw [hg] at q
        exact q
    · cases e
  · rename_i ks es
    split at e
    · rename_i k hk
      cases e
      obtain ⟨x, y, rfl, r1, r2⟩ := pr2 rr
      obtain ⟨a, kvs, rfl, ha, he, hr⟩ := r2.dt S.same
      obtain ⟨b, us, rfl, hb, tb, rb⟩ := r1.tup S.same
      rw [rb.keys hk] at hb
      refine .inr (.inr ⟨a, valV kvs k, rfl, .t ha hb, ?_⟩)
      obtain ⟨g1, g2⟩ := getK_val (k := k) he hr
      cases hg : getK es k with
      | none =>
        rw [g2 hg]
        rw [hg] at q
        exact q
      | some d' =>
        obtain ⟨v', h1, _⟩ := g1 d' hg
        rw [h1]
        rw [hg] at q
        exact q
    · cases e
  · cases e
theorem room65 {k : Nat} {A : Around} (h : Room k A) : A.units + 65 < cLine := by
  have := h.un
  omega
theorem op_inD' {g : G0} : OpI g (compareOp .In) inD := by
  refine ⟨rInAny g.K false, fun c X hX => by rw [← hX.eK]; exact op_inAny (room65 hX.room), fun A B H vs env xs ds res Q S rr e q => ?_⟩
  unfold inD at e
  cases hb : inB ds with
  | none =>
    rw [hb] at e
    cases e
  | some b =>
    rw [hb] at e
    cases e
    exact inAny_ok S rr hb (by rw [if_neg Bool.false_ne_true]; exact q B H _ (Same.refl _) (.im S (.bl _)))
theorem op_notInD' {g : G0} : OpI g (compareOp .NotIn) notInD := by
  refine ⟨rInAny g.K true, fun c X hX => by rw [← hX.eK]; exact op_notInAny (room65 hX.room), fun A B H vs env xs ds res Q S rr e q => ?_⟩
  unfold notInD at e
  cases hb : inB ds with
  | none =>
    rw [hb] at e
    cases e
  | some b =>
    rw [hb] at e
    cases e
    exact inAny_ok S rr hb (by rw [if_pos rfl]; exact q B H _ (Same.refl _) (.im S (.bl _)))

/-! ### a < b < c -/
def eChain (f h : List D → Option Vl) (ma mb mc : M Vl) : M Vl := bd ma fun ra => bd mb fun rb e => match cnt e ra.hold, cnt e rb.hold with
  | some da, some db => match f [da, db] with
    | some (.im (.bl true)) => bd mc (fun rc e2 => match cnt e2 rb.hold, cnt e2 rc.hold with
      | some db, some dc => match h [db, dc] with
        | some (.im d) => some (.im d, e2)
        | _ => none
      | _, _ => none) e
    | some (.im (.bl false)) => some (.im (.bl false), e)
    | _ => none
  | _, _ => none
section
variable {K : PySem.W.Frag} {A : Anc}
theorem sx_chain {r r' : R2} {ta tb tc : TE} {ma mb mc : M Vl} {f h : List D → Option Vl} (hf : PrS K (on2 r) f) (hh : PrS K (on2 r') h) (ha : SEX K A ta ma) (hb : SEX K A tb mb) (hc : SEX K A tc mc) : SEX K A (tChain r r' ta tb tc) (eChain f h ma mb mc) :=
  fun σ τ B H env pe env' res Q S hl e q => by
  obtain ⟨ra, e1, h1, e⟩ := bd_inv e
  obtain ⟨rb, e2, h2, e⟩ := bd_inv e
  refine ha σ τ B H env pe e1 ra _ S hl h1 fun B1 H1 x s1 hl1 hx => ?_
  obtain ⟨B2, s2, S2, hhx⟩ := hx.held
  refine hb σ τ B2 H1 e1 pe e2 rb _ S2 hl1 h2 fun B3 H3 y s3 hl3 hy => ?_
  obtain ⟨B4, s4, S4, hhy⟩ := hy.held
  have hhx := hhx.mono (s3.trans s4)
  split at e
  · rename_i da db hda hdb
    have rx := Hv.rr S4 hl3 hhx hda
    have ry := Hv.rr S4 hl3 hhy hdb
    split at e
    · rename_i hfe
      refine hf A B4 H3 (σ ++ τ) (e2 ++ pe) [x, y] [da, db] _ _ S4 (.cons rx (.cons ry .nil)) hfe fun B5 H5 z s5 hz => ?_
      obtain ⟨S5, rz⟩ := hz
      cases rz
      refine ⟨true, rfl, ?_⟩
      rw [if_pos rfl]
      obtain ⟨rc, e3, h3, e⟩ := bd_inv e
      refine hc σ τ B5 H5 e2 pe e3 rc _ S5 hl3 h3 fun B6 H6 w s6 hl6 hw => ?_
      obtain ⟨B7, s7, S7, hhw⟩ := hw.held
      split at e
      · rename_i db' dc hdb' hdc
        split at e
        · rename_i d hhe
          cases e
          have ry := Hv.rr S7 hl6 (hhy.mono ((s5.trans s6).trans s7)) hdb'
          have rw' := Hv.rr S7 hl6 hhw hdc
          exact hh A B7 H6 (σ ++ τ) (_ ++ pe) [y, w] [db', dc] _ _ S7 (.cons ry (.cons rw' .nil)) hhe fun B8 H8 v s8 hv => q B8 H8 v (((((((s1.trans s2).trans s3).trans s4).trans s5).trans s6).trans s7).trans s8) hl6 hv
        · cases e
      · cases e
    · rename_i hfe
      cases e
      refine hf A B4 H3 (σ ++ τ) (_ ++ pe) [x, y] [da, db] _ _ S4 (.cons rx (.cons ry .nil)) hfe fun B5 H5 z s5 hz => ?_
      obtain ⟨S5, rz⟩ := hz
      cases rz
      refine ⟨false, rfl, ?_⟩
      rw [if_neg Bool.false_ne_true]
      exact q B5 H5 _ ((((s1.trans s2).trans s3).trans s4).trans s5) hl3 ⟨S5, .bl _⟩
    · cases e
  · cases e
theorem ee_chain {g : G0} {c : Ct} {a b d : Expr} {pos : Pos} {ma mb mc : M Vl} {op op' : CmpOp} {f h : List D → Option Vl} (ho : OpI g (compareOp op) f) (ho' : OpI g (compareOp op') h) (ha : EE g c a ma) (hb : EE g c b mb) (hc : EE g c d mc) (hm : lastMarks [op, op'] [b, d] = false) :
    EE g c (.Compare a [op, op'] [b, d] pos) (eChain f h ma mb mc) := by
  obtain ⟨r, o1, o2⟩ := ho
  obtain ⟨r', o3, o4⟩ := ho'
  obtain ⟨t, h1, h2⟩ := ha
  obtain ⟨u, h3, h4⟩ := hb
  obtain ⟨v, h5, h6⟩ := hc
  exact ⟨_, fun X hX => pe_chain (o1 c X hX) (o3 c X hX) (h1 X hX) (h3 X hX) (h5 X hX) (hm := hm), fun A => sx_chain o2 o4 (h2 A) (h4 A) (h6 A)⟩
end
end PD
namespace PD
open PySem PySem.Spec PyProof.Rows L2

/-! ### x[i] -/
def ixD : List D → Option Vl
  | [.lst ds, .int i] => (atI ds i).map .im
  | [.tup ds, .int i] => (atI ds i).map .im
  | [.sc ns, .int i] => (atI ns i).map fun n => .im (.int n)
  | [.str x, .int i] => if small x.length = true then (atI x.cps.toList i).map fun c => .im (.str ⟨#[c]⟩) else none
  | [.dk es, k] => match keyD k with
    | some k => (getK es k).map .im
    | none => none
  | [.dt es, .tup ks] => match keysD ks with
    | some k => (getK es k).map .im
    | none => none
  | _ => none
def rIxDct : R2 := fun x y H Q => ∃ a v, x = .ref a ∧ DGet H a y (some v) ∧ Q v H
theorem ix_dct {X : Cx} (hu : X.A.units + 1 < cLine) : IxR X rIxDct := by
  intro value slice pins s σ H x y v u Q I rx ry h hs
  obtain ⟨a, w, rfl, gd, q⟩ := h
  cases rx
  exact tail_any (dict_typeIs I gd) PySem.F.slot_dict_getitem.lookup (d_getItem hu I gd ry fun w' s' I' rw' => ⟨w, H, I', rw', q⟩) hs
def rIxA (K : PySem.W.Frag) : R2 := fun x y H Q => (rIxL K x y H Q ∨ rIxT K x y H Q) ∨ (rIxS x y H Q ∨ rIxDct x y H Q)
theorem ix_any {X : Cx} (hu : X.A.units + 1 < cLine) : IxR X (rIxA X.K) := (ix_list.or ix_tup).or (ix_str.or (ix_dct hu))
section
variable {K : PySem.W.Frag} {A : Anc} {B H : Hp} {vs : L2.St} {env : Env}
theorem Rps.atI {ds : List D} {xs : List V} {i : Int} {d : D} (r : Rps K B ds xs) (h : L2.atI ds i = some d) : ∃ v, L2.atI xs i = some v ∧ Rp K B d v := by
  unfold L2.atI at h ⊢
  rw [← r.length]
  cases hj : ixN ds.length i with
  | none =>
    rw [hj] at h
    cases h
  | some j =>
    rw [hj] at h
    exact r.get h
theorem atI_mem {α : Type} {xs : List α} {i : Int} {x : α} (h : L2.atI xs i = some x) : x ∈ xs := by
  unfold L2.atI at h
  cases hj : ixN xs.length i with
  | none =>
    rw [hj] at h
    cases h
  | some j =>
    rw [hj] at h
    exact List.mem_of_getElem? h
theorem ix_ok {xs : List V} {ds : List D} {res : Vl} {Q : VK} (S : SR K A B H vs env) (rr : Paired (Rr K B H) ds xs) (e : ixD ds = some res) (q : ∀ B' H' v, Same B B' → VRp K A B' H' vs env res v → Q v H') : on2 (rIxA K) xs H Q := by
  unfold ixD at e
  split at e
  · rename_i es i
    cases hd : L2.atI es i with
    | none =>
      rw [hd] at e
      cases e
    | some d =>
      rw [hd] at e
      cases e
      obtain ⟨x, y, rfl, r1, r2⟩ := pr2 rr
      obtain ⟨a, us, rfl, ha, ra⟩ := r1.lst S.same
      obtain ⟨v, h1, h2⟩ := ra.atI hd
      exact .inl (.inl ⟨a, us, i, v, rfl, r2.int, .of ha, h1, q B H v (Same.refl _) (.im S h2)⟩)
  · rename_i es i
    cases hd : L2.atI es i with
    | none =>
      rw [hd] at e
      cases e
    | some d =>
      rw [hd] at e
      cases e
      obtain ⟨x, y, rfl, r1, r2⟩ := pr2 rr
      obtain ⟨a, us, rfl, ha, _, ra⟩ := r1.tup S.same
      obtain ⟨v, h1, h2⟩ := ra.atI hd
      exact .inl (.inr ⟨a, us, i, v, rfl, r2.int, .of ha, h1, q B H v (Same.refl _) (.im S h2)⟩)
  · rename_i ns i
    cases hd : L2.atI ns i with
    | none =>
      rw [hd] at e
      cases e
    | some n =>
      rw [hd] at e
      cases e
      obtain ⟨x, y, rfl, r1, r2⟩ := pr2 rr
      obtain ⟨a, rfl, ha⟩ := r1.sc S.same
      have h1 : L2.atI (ns.map V.int) i = some (.int n) := by
        unfold L2.atI at hd ⊢
        rw [List.length_map]
        cases hj : ixN ns.length i with
        | none =>
          rw [hj] at hd
          cases hd
        | some j =>
          rw [hj] at hd
          show (ns.map V.int)[j]? = _
          rw [List.getElem?_map, show ns[j]? = some n from hd]
          rfl
      exact .inl (.inl ⟨a, _, i, _, rfl, r2.int, ha, h1, q B H _ (Same.refl _) (.im S (.int n))⟩)
  · rename_i z i
    split at e
    · rename_i hs
      cases hd : L2.atI z.cps.toList i with
      | none =>
        rw [hd] at e
        cases e
      | some c =>
        rw [hd] at e
        cases e
        obtain ⟨x, y, rfl, r1, r2⟩ := pr2 rr
        obtain ⟨e1, o1⟩ := r1.str
        exact .inr (.inl ⟨z, i, c, e1, r2.int, of_decide_eq_true hs, hd, q B H _ (Same.refl _) (.im S (.str _ (ok_sub (l := [c]) o1 fun c' hc' => by
          rw [List.mem_singleton.mp hc']
          exact atI_mem hd)))⟩)
    · cases e
  · rename_i es kd
    split at e
    · rename_i k hk
      cases hd : getK es k with
      | none =>
        rw [hd] at e
        cases e
      | some d =>
        rw [hd] at e
        cases e
        obtain ⟨x, y, rfl, r1, r2⟩ := pr2 rr
        obtain ⟨a, kvs, rfl, ha, he, hr⟩ := r1.dk S.same
        rw [r2.key hk]
        obtain ⟨v, h1, h2⟩ := (getK_val (k := k) he hr).1 d hd
        have gd := DGet.k (k := k) ha
        rw [h1] at gd
        exact .inr (.inr ⟨a, v, rfl, gd, q B H v (Same.refl _) (.im S h2)⟩)
    · cases e
  · rename_i es ks
    split at e
    · rename_i k hk
      cases hd : getK es k with
      | none =>
        rw [hd] at e
        cases e
      | some d =>
        rw [hd] at e
        cases e
        obtain ⟨x, y, rfl, r1, r2⟩ := pr2 rr
        obtain ⟨a, kvs, rfl, ha, he, hr⟩ := r1.dt S.same
        obtain ⟨b, us, rfl, hb, tb, rb⟩ := r2.tup S.same
        rw [rb.keys hk] at hb
        obtain ⟨v, h1, h2⟩ := (getK_val (k := k) he hr).1 d hd
        have gd := DGet.t ha hb
        rw [h1] at gd
        exact .inr (.inr ⟨a, v, rfl, gd, q B H v (Same.refl _) (.im S h2)⟩)
    · cases e
  · cases e
end
section
variable {g : G0} {c : Ct} {e a b : Expr} {es : List Expr} {pos p apos : Pos} {m ma mb : M Vl} {ms : M (List Vl)}
theorem ee_ix (h : EE g c a ma) (h' : EE g c b mb) (hs : PlainIx b) : EE g c (.Subscript a b pos) (eP ixD (cA ma (cA mb cN))) := by
  obtain ⟨t, h1, h2⟩ := h
  obtain ⟨u, h3, h4⟩ := h'
  refine ⟨tOp (rIxA g.K) t u, fun X hX => ?_, fun A => sx_op (fun A B H vs env xs ds res Q S rr e q => ix_ok S rr e q) (h2 A) (h4 A)⟩
  rw [← hX.eK]
  exact pe_ix (ix_any (hu_of hX.room)) (h1 X hX) (h3 X hX) hs
end

/-! ### x[i:j] -/
def cutD {α : Type} (ds : List α) (lo hi : Option Int) : List α := (ds.drop (HT.sIx ds.length 0 lo)).take (HT.sIx ds.length ds.length hi - HT.sIx ds.length 0 lo)
def slD (lo hi : Option Int) : D → Option Vl
  | .lst ds => some (.fr (.lst (cutD ds lo hi)))
  | .tup ds => some (.im (.tup (cutD ds lo hi)))
  | .sc ns => some (.fr (.lst ((cutD ns lo hi).map D.int)))
  | .str x => if small x.length = true then some (.im (.str (cutS x lo hi))) else none
  | _ => none
def rSlAny (K : PySem.W.Frag) : V → Option Int → Option Int → Hp → VK → Prop := fun x lo hi H Q => (rSlL K x lo hi H Q ∨ rSlA K x lo hi H Q) ∨ rSlS x lo hi H Q
theorem sl_any {X : Cx} : SlR X (rSlAny X.K) := (sl_list.or sl_tupA).or sl_str
section
variable {K : PySem.W.Frag} {A : Anc} {B H : Hp} {vs : L2.St} {env : Env}
theorem sl_ok {x : V} {d : D} {lo hi : Option Int} {res : Vl} {Q : VK} (S : SR K A B H vs env) (rr : Rr K B H d x) (e : slD lo hi d = some res) (q : ∀ B' H' v, Same B B' → VRp K A B' H' vs env res v → Q v H') : rSlAny K x lo hi H Q := by
  unfold slD at e
  split at e
  · cases e
    obtain ⟨a, us, rfl, ha, ra⟩ := rr.lst S.same
    refine .inl (.inl ⟨a, us, rfl, .of ha, fun p hp => q B _ _ (Same.refl _) (.lst S hp ?_)⟩)
    unfold cutV cutD
    rw [← ra.length]
    exact (ra.drop _).take _
  · rename_i ds
    cases e
    obtain ⟨a, us, rfl, ha, ta, ra⟩ := rr.tup S.same
    have rc : Rps K B (cutD ds lo hi) (cutV us lo hi) := by
      unfold cutV cutD
      rw [← ra.length]
      exact (ra.drop _).take _
    refine .inl (.inr ⟨a, us, rfl, .of ha, fun ⟨z1, z2⟩ => ?_, fun _ p hp => ?_⟩)
    · have e1 : cutD ds lo hi = ds := by
        unfold cutD
        rw [ra.length, z1, z2, List.drop_zero, Nat.sub_zero, ← ra.length, List.take_length]
      rw [e1] at q
      exact q B H _ (Same.refl _) (.im S (.tup ta ra))
    · obtain ⟨B', s', v'⟩ := VRp.tup S hp rc
      exact q B' _ _ s' v'
  · rename_i ns
    cases e
    obtain ⟨a, rfl, ha⟩ := rr.sc S.same
    refine .inl (.inl ⟨a, _, rfl, ha, fun p hp => q B _ _ (Same.refl _) (.lst S hp ?_)⟩)
    have e1 : cutV (ns.map V.int) lo hi = (cutD ns lo hi).map V.int := by
      unfold cutV cutD
      rw [List.length_map, List.map_take, List.map_drop]
    rw [e1]
    exact Rps.of_ints _
  · rename_i z
    split at e
    · rename_i hs
      cases e
      obtain ⟨e1, o1⟩ := rr.str
      exact .inr ⟨z, e1, of_decide_eq_true hs, q B H _ (Same.refl _) (.im S (.str _ (ok_sub o1 fun c hc => List.mem_of_mem_drop (List.mem_of_mem_take hc))))⟩
    · cases e
  · cases e
/-- a slice's end: left out, or a number -/
def SOX (K : PySem.W.Frag) (A : Anc) (t : TO) (m : M (Option Int)) : Prop := ∀ (σ τ : L2.St) (B H : Hp) (env pe env' : Env) (o : Option Int) (Q : Option Int → Hp → Prop), SR K A B H (σ ++ τ) (env ++ pe) → σ.length = env.length → m env = some (o, env') →
  (∀ B' H', Same B B' → σ.length = env'.length → SR K A B' H' (σ ++ τ) (env' ++ pe) → Q o H') → t σ H Q
def oN : M (Option Int) := rt none
def oS (m : M Vl) : M (Option Int) := bd m fun r e => match r with
  | .im (.int i) => some (some i, e)
  | _ => none
theorem so_none : SOX K A tNoPart oN := fun σ τ B H env pe env' o Q S hl e q => by
  cases e
  exact q B H (Same.refl _) hl S
theorem so_some {t : TE} {m : M Vl} (h : SEX K A t m) : SOX K A (tPart t) (oS m) := fun σ τ B H env pe env' o Q S hl e q => by
  obtain ⟨r, e1, h1, e⟩ := bd_inv e
  split at e
  · rename_i i
    cases e
    refine h σ τ B H env pe _ _ _ S hl h1 fun B1 H1 v s1 hl1 hv => ?_
    obtain ⟨S1, rr⟩ := hv
    cases rr
    exact ⟨i, rfl, q B1 H1 s1 hl1 S1⟩
  · cases e
def eSl (ma : M Vl) (lo hi : M (Option Int)) : M Vl := bd ma fun r => bd lo fun l => bd hi fun h e => match cnt e r.hold with
  | some d => match slD l h d with
    | some (.im d') => some (.im d', e)
    | some (.fr d') => some (.fr d', e)
    | _ => none
  | none => none
theorem sx_sl {t : TE} {tl th : TO} {ma : M Vl} {lo hi : M (Option Int)} (h : SEX K A t ma) (hl' : SOX K A tl lo) (hh : SOX K A th hi) : SEX K A (tSl (rSlAny K) t tl th) (eSl ma lo hi) := fun σ τ B H env pe env' res Q S hl e q => by
  obtain ⟨r, e1, h1, e⟩ := bd_inv e
  obtain ⟨l, e2, h2, e⟩ := bd_inv e
  obtain ⟨u, e3, h3, e⟩ := bd_inv e
  refine h σ τ B H env pe e1 r _ S hl h1 fun B1 H1 v s1 hl1 hv => ?_
  obtain ⟨B2, s2, S2, hhv⟩ := hv.held
  refine hl' σ τ B2 H1 e1 pe e2 l _ S2 hl1 h2 fun B3 H3 s3 hl3 S3 => ?_
  refine hh σ τ B3 H3 e2 pe e3 u _ S3 hl3 h3 fun B4 H4 s4 hl4 S4 => ?_
  split at e
  · rename_i d hd
    have rr := Hv.rr S4 hl4 (hhv.mono (s3.trans s4)) hd
    split at e
    · rename_i d' hs
      cases e
      exact sl_ok S4 rr hs fun B5 H5 w s5 hw => q B5 H5 w ((((s1.trans s2).trans s3).trans s4).trans s5) hl4 hw
    · rename_i d' hs
      cases e
      exact sl_ok S4 rr hs fun B5 H5 w s5 hw => q B5 H5 w ((((s1.trans s2).trans s3).trans s4).trans s5) hl4 hw
    · cases e
  · cases e
end
def EO (g : G0) (c : Ct) (e : Option Expr) (m : M (Option Int)) : Prop := ∃ t, (∀ X, Cok g c X → PO X e t) ∧ ∀ A, SOX g.K A t m
section
variable {g : G0} {c : Ct} {e a b : Expr} {es : List Expr} {pos p p2 apos : Pos} {m ma mb : M Vl} {ms : M (List Vl)}
theorem eo_none : EO g c none oN := ⟨_, fun _ _ => po_none, fun _ => so_none⟩
theorem eo_some (h : EE g c e m) : EO g c (some e) (oS m) := by
  obtain ⟨t, h1, h2⟩ := h
  exact ⟨_, fun X hX => po_some (h1 X hX), fun A => so_some (h2 A)⟩
theorem ee_sl {lo hi : Option Expr} {ml mh : M (Option Int)} (h : EE g c a ma) (hl : EO g c lo ml) (hh : EO g c hi mh) : EE g c (.Subscript a (.Slice lo hi none p2) pos) (eSl ma ml mh) := by
  obtain ⟨t, h1, h2⟩ := h
  obtain ⟨u, h3, h4⟩ := hl
  obtain ⟨v, h5, h6⟩ := hh
  refine ⟨tSl (rSlAny g.K) t u v, fun X hX => ?_, fun A => sx_sl (h2 A) (h4 A) (h6 A)⟩
  rw [← hX.eK]
  exact pe_slice sl_any (h1 X hX) (h3 X hX) (h5 X hX)
end

/-! ### built-in functions by values -/
theorem CallR.or' {X : Cx} {f : Value} {r r' : List V → Hp → VK → Prop} (h : CallR X f r) (h' : CallR X f r') : CallR X f (fun xs H Q => r xs H Q ∨ r' xs H Q) := by
  intro pins s σ H xs us Q I rs q
  rcases q with q | q
  · exact h pins s σ H xs us Q I rs q
  · exact h' pins s σ H xs us Q I rs q
def lenD : List D → Option Vl
  | [.str x] => if small x.length = true then some (.im (.int x.length)) else none
  | [.lst ds] => some (.im (.int ds.length))
  | [.tup ds] => some (.im (.int ds.length))
  | [.sc ns] => some (.im (.int ns.length))
  | [.tp ds] => some (.im (.int ds.length))
  | _ => none
theorem ca_len {g : G0} : CaI g (.builtin "len") lenD := by
  refine ⟨fun xs H Q => ∃ x n, xs = [x] ∧ LenV g.K x H n ∧ Q (.int n) H, fun c X hX => by rw [← hX.eK]; exact call_len, fun A B H vs env xs ds res Q S rr e q => ?_⟩
  unfold lenD at e
  split at e
  · split at e
    · rename_i hs
      cases e
      obtain ⟨x, rfl, r1⟩ := pr1 rr
      obtain ⟨e1, _⟩ := r1.str
      exact ⟨x, _, rfl, by rw [e1]; exact ⟨of_decide_eq_true hs, rfl⟩, q B H _ (Same.refl _) (.im S (.int _))⟩
    · cases e
  · cases e
    obtain ⟨x, rfl, r1⟩ := pr1 rr
    obtain ⟨a, us, rfl, ha, ra⟩ := r1.lst S.same
    exact ⟨_, _, rfl, .inl ⟨us, .of ha, ra.length⟩, q B H _ (Same.refl _) (.im S (.int _))⟩
  · cases e
    obtain ⟨x, rfl, r1⟩ := pr1 rr
    obtain ⟨a, us, rfl, ha, _, ra⟩ := r1.tup S.same
    exact ⟨_, _, rfl, .inr ⟨us, .of ha, ra.length⟩, q B H _ (Same.refl _) (.im S (.int _))⟩
  · cases e
    obtain ⟨x, rfl, r1⟩ := pr1 rr
    obtain ⟨a, rfl, ha⟩ := r1.sc S.same
    exact ⟨_, _, rfl, .inl ⟨_, ha, by rw [List.length_map]⟩, q B H _ (Same.refl _) (.im S (.int _))⟩
  · cases e
    obtain ⟨x, rfl, r1⟩ := pr1 rr
    obtain ⟨a, o, us, rfl, ha, _, ra⟩ := r1.tp S.same
    exact ⟨_, _, rfl, .inr ⟨us, .inl (.inr ⟨_, ha⟩), ra.length⟩, q B H _ (Same.refl _) (.im S (.int _))⟩
  · cases e
def absD : List D → Option Vl
  | [.int i] => some (.im (.int (if i < 0 then -i else i)))
  | _ => none
theorem ca_abs {g : G0} : CaI g (.builtin "abs") absD := by
  refine ⟨_, fun c X hX => call_abs, fun A B H vs env xs ds res Q S rr e q => ?_⟩
  unfold absD at e
  split at e
  · cases e
    obtain ⟨x, rfl, r1⟩ := pr1 rr
    exact ⟨_, by rw [r1.int], q B H _ (Same.refl _) (.im S (.int _))⟩
  · cases e
def maxD : List D → Option Vl
  | [.int i, .int j] => some (.im (.int (if j > i then j else i)))
  | _ => none
theorem ca_max {g : G0} : CaI g (.builtin "max") maxD := by
  refine ⟨_, fun c X hX => call_max2 hX.calm, fun A B H vs env xs ds res Q S rr e q => ?_⟩
  unfold maxD at e
  split at e
  · cases e
    obtain ⟨x, y, rfl, r1, r2⟩ := pr2 rr
    exact ⟨_, _, by rw [r1.int, r2.int], q B H _ (Same.refl _) (.im S (.int _))⟩
  · cases e
def minD : List D → Option Vl
  | [.int i, .int j] => some (.im (.int (if j < i then j else i)))
  | _ => none
theorem ca_min {g : G0} : CaI g (.builtin "min") minD := by
  refine ⟨_, fun c X hX => call_min2 hX.calm, fun A B H vs env xs ds res Q S rr e q => ?_⟩
  unfold minD at e
  split at e
  · cases e
    obtain ⟨x, y, rfl, r1, r2⟩ := pr2 rr
    exact ⟨_, _, by rw [r1.int, r2.int], q B H _ (Same.refl _) (.im S (.int _))⟩
  · cases e
def intD : List D → Option Vl
  | [.int i] => some (.im (.int i))
  | [.bl b] => some (.im (.int (if b then 1 else 0)))
  | _ => none
theorem ca_int {g : G0} : CaI g (.type "int") intD := by
  refine ⟨_, fun c X hX => call_int1, fun A B H vs env xs ds res Q S rr e q => ?_⟩
  unfold intD at e
  split at e
  · cases e
    obtain ⟨x, rfl, r1⟩ := pr1 rr
    exact .inl ⟨_, by rw [r1.int], q B H _ (Same.refl _) (.im S (.int _))⟩
  · cases e
    obtain ⟨x, rfl, r1⟩ := pr1 rr
    exact .inr ⟨_, by rw [r1.bl], q B H _ (Same.refl _) (.im S (.int _))⟩
  · cases e
def intsD : List D → Option (List Int)
  | [] => some []
  | .int i :: ds => (intsD ds).map (i :: ·)
  | _ => none
def blsD : List D → Option (List Bool)
  | [] => some []
  | .bl i :: ds => (blsD ds).map (i :: ·)
  | _ => none
def strsD : List D → Option (List Str)
  | [] => some []
  | .str i :: ds => (strsD ds).map (i :: ·)
  | _ => none
theorem intsD_map : ∀ {ds : List D} {ns : List Int}, intsD ds = some ns → ds = ns.map D.int
  | [], _, h => by
    cases h
    rfl
  | d :: ds, ns, h => by
    unfold intsD at h
    split at h
    · rename_i heq
      cases heq
    · rename_i i es heq
      cases heq
      cases hs : intsD ds with
      | none =>
        rw [hs] at h
        cases h
      | some ms =>
        rw [hs] at h
        cases h
        rw [List.map_cons, intsD_map hs]
    · cases h
theorem blsD_map : ∀ {ds : List D} {ns : List Bool}, blsD ds = some ns → ds = ns.map D.bl
  | [], _, h => by
    cases h
    rfl
  | d :: ds, ns, h => by
    unfold blsD at h
    split at h
    · rename_i heq
      cases heq
    · rename_i i es heq
      cases heq
      cases hs : blsD ds with
      | none =>
        rw [hs] at h
        cases h
      | some ms =>
        rw [hs] at h
        cases h
        rw [List.map_cons, blsD_map hs]
    · cases h
theorem strsD_map : ∀ {ds : List D} {ns : List Str}, strsD ds = some ns → ds = ns.map D.str
  | [], _, h => by
    cases h
    rfl
  | d :: ds, ns, h => by
    unfold strsD at h
    split at h
    · rename_i heq
      cases heq
    · rename_i i es heq
      cases heq
      cases hs : strsD ds with
      | none =>
        rw [hs] at h
        cases h
      | some ms =>
        rw [hs] at h
        cases h
        rw [List.map_cons, strsD_map hs]
    · cases h
theorem intsD_ints : ∀ ns : List Int, intsD (ns.map D.int) = some ns
  | [] => rfl
  | n :: ns => by
    show (intsD (ns.map D.int)).map (n :: ·) = _
    rw [intsD_ints ns]
    rfl
theorem blsD_bls : ∀ ns : List Bool, blsD (ns.map D.bl) = some ns
  | [] => rfl
  | n :: ns => by
    show (blsD (ns.map D.bl)).map (n :: ·) = _
    rw [blsD_bls ns]
    rfl
theorem strsD_strs : ∀ ns : List Str, strsD (ns.map D.str) = some ns
  | [] => rfl
  | n :: ns => by
    show (strsD (ns.map D.str)).map (n :: ·) = _
    rw [strsD_strs ns]
    rfl
def sumD : List D → Option Vl
  | [.lst ds] => (intsD ds).map fun ns => .im (.int ns.sum)
  | _ => none
theorem ca_sum {g : G0} : CaI g (.builtin "sum") sumD := by
  refine ⟨rSum g.K, fun c X hX => by rw [← hX.eK]; exact cr_sum hX.calm, fun A B H vs env xs ds res Q S rr e q => ?_⟩
  unfold sumD at e
  split at e
  · rename_i es
    cases hs : intsD es with
    | none =>
      rw [hs] at e
      cases e
    | some ns =>
      rw [hs] at e
      cases e
      obtain ⟨x, rfl, r1⟩ := pr1 rr
      obtain ⟨a, us, rfl, ha, ra⟩ := r1.lst S.same
      rw [intsD_map hs] at ra
      rw [ra.ints] at ha
      exact ⟨a, ns, rfl, .of ha, q B H _ (Same.refl _) (.im S (.int _))⟩
  · cases e
def allD : List D → Option Vl
  | [.lst ds] => (blsD ds).map fun ns => .im (.bl (ns.all id))
  | _ => none
theorem ca_all {g : G0} : CaI g (.builtin "all") allD := by
  refine ⟨rAll g.K, fun c X hX => by rw [← hX.eK]; exact cr_all hX.calm, fun A B H vs env xs ds res Q S rr e q => ?_⟩
  unfold allD at e
  split at e
  · rename_i es
    cases hs : blsD es with
    | none =>
      rw [hs] at e
      cases e
    | some ns =>
      rw [hs] at e
      cases e
      obtain ⟨x, rfl, r1⟩ := pr1 rr
      obtain ⟨a, us, rfl, ha, ra⟩ := r1.lst S.same
      rw [blsD_map hs] at ra
      rw [ra.bls] at ha
      exact ⟨a, ns, rfl, .of ha, q B H _ (Same.refl _) (.im S (.bl _))⟩
  · cases e
def anyD : List D → Option Vl
  | [.lst ds] => (blsD ds).map fun ns => .im (.bl (ns.any id))
  | _ => none
theorem ca_any {g : G0} : CaI g (.builtin "any") anyD := by
  refine ⟨rAny g.K, fun c X hX => by rw [← hX.eK]; exact cr_any hX.calm, fun A B H vs env xs ds res Q S rr e q => ?_⟩
  unfold anyD at e
  split at e
  · rename_i es
    cases hs : blsD es with
    | none =>
      rw [hs] at e
      cases e
    | some ns =>
      rw [hs] at e
      cases e
      obtain ⟨x, rfl, r1⟩ := pr1 rr
      obtain ⟨a, us, rfl, ha, ra⟩ := r1.lst S.same
      rw [blsD_map hs] at ra
      rw [ra.bls] at ha
      exact ⟨a, ns, rfl, .of ha, q B H _ (Same.refl _) (.im S (.bl _))⟩
  · cases e
def listD : List D → Option Vl
  | [.lst ds] => some (.fr (.lst ds))
  | [.tup ds] => some (.fr (.lst ds))
  | _ => none
theorem ca_list {g : G0} : CaI g (.type "list") listD := by
  refine ⟨fun xs H Q => ∃ p ys, xs = [.ref p] ∧ (SqL g.K H p ys ∨ SqT g.K H p ys) ∧ ∀ l, H l = none → Q (.ref l) (upd H l (.lst ys)), fun c X hX => by rw [← hX.eK]; exact call_list_of, fun A B H vs env xs ds res Q S rr e q => ?_⟩
  unfold listD at e
  split at e
  · cases e
    obtain ⟨x, rfl, r1⟩ := pr1 rr
    obtain ⟨a, us, rfl, ha, ra⟩ := r1.lst S.same
    exact ⟨a, us, rfl, .inl (.of ha), fun l hl => q B _ _ (Same.refl _) (.lst S hl ra)⟩
  · cases e
    obtain ⟨x, rfl, r1⟩ := pr1 rr
    obtain ⟨a, us, rfl, ha, _, ra⟩ := r1.tup S.same
    exact ⟨a, us, rfl, .inr (.of ha), fun l hl => q B _ _ (Same.refl _) (.lst S hl ra)⟩
  · cases e
def tupleD : List D → Option Vl
  | [.lst ds] => some (.im (.tup ds))
  | [.tup ds] => some (.im (.tup ds))
  | _ => none
theorem ca_tuple {g : G0} : CaI g (.type "tuple") tupleD := by
  refine ⟨fun xs H Q => ∃ p ys, xs = [.ref p] ∧ ((SqL g.K H p ys ∧ ∀ l, H l = none → Q (.ref l) (upd H l (.tup ys))) ∨ (SqT g.K H p ys ∧ Q (.ref p) H)), fun c X hX => by rw [← hX.eK]; exact call_tuple_of, fun A B H vs env xs ds res Q S rr e q => ?_⟩
  unfold tupleD at e
  split at e
  · cases e
    obtain ⟨x, rfl, r1⟩ := pr1 rr
    obtain ⟨a, us, rfl, ha, ra⟩ := r1.lst S.same
    refine ⟨a, us, rfl, .inl ⟨.of ha, fun l hl => ?_⟩⟩
    obtain ⟨B', s', v'⟩ := VRp.tup S hl ra
    exact q B' _ _ s' v'
  · cases e
    obtain ⟨x, rfl, r1⟩ := pr1 rr
    obtain ⟨a, us, rfl, ha, ta, ra⟩ := r1.tup S.same
    exact ⟨a, us, rfl, .inr ⟨.of ha, q B H _ (Same.refl _) (.im S (.tup ta ra))⟩⟩
  · cases e

/-! ### isinstance -/
def tyN : D → Option String
  | .non => some "NoneType"
  | .bl _ => some "bool"
  | .int _ => some "int"
  | .str _ => some "str"
  | .tup _ => some "tuple"
  | .lst _ => some "list"
  | .dk _ => some "dict"
  | .dt _ => some "dict"
  | .sc _ => none
  | .ty _ => none
  | .txt _ => none
  | .tp _ => some "tuple"
def tyIs (t n : String) : Bool := t == n || (t == "bool" && n == "int")
def knownT : List String := ["str", "int", "bool", "list", "tuple", "dict"]
theorem kit_all : (["NoneType", "bool", "int", "str", "tuple", "list", "dict"].all fun t => knownT.all fun n => kitB t n == some (tyIs t n)) = true := by decide +kernel
theorem tyN_mem {d : D} {t : String} (h : tyN d = some t) : t ∈ ["NoneType", "bool", "int", "str", "tuple", "list", "dict"] := by
  cases d <;> (unfold tyN at h; first | (cases h; simp) | cases h)
theorem kit_at {d : D} {t n : String} (h : tyN d = some t) (hn : knownT.contains n = true) : kitB t n = some (tyIs t n) := by
  have h1 := List.all_eq_true.mp kit_all t (tyN_mem h)
  have h2 := List.all_eq_true.mp h1 n (by simpa using hn)
  exact eq_of_beq h2
def tysD : List D → Option (List String)
  | [] => some []
  | .ty n :: r => (tysD r).map (n :: ·)
  | _ => none
def isiD : List D → Option Vl
  | [d, .ty n] => match tyN d with
    | some t => if knownT.contains n = true then some (.im (.bl (tyIs t n))) else none
    | none => none
  | [d, .tup ns] => match tyN d, tysD ns with
    | some t, some ms => if (ms.all fun n => knownT.contains n) = true then some (.im (.bl (ms.any fun n => tyIs t n))) else none
    | _, _ => none
  | _ => none
section
variable {K : PySem.W.Frag} {B H : Hp}
theorem Rr.tyx {d : D} {v : V} {t : String} (s : Same B H) (h : Rr K B H d v) (e : tyN d = some t) : TyX K H v (.type t) := by
  cases d with
  | non => cases e; rw [h.non]; exact .base .non
  | bl b => cases e; rw [h.bl]; exact .base (.bl b)
  | int i => cases e; rw [h.int]; exact .base (.int i)
  | str x => cases e; rw [h.str.1]; exact .base (.str x)
  | tup ds =>
    cases e
    obtain ⟨a, xs, rfl, ha, _⟩ := h.tup s
    exact .base (.tup ha)
  | lst ds =>
    cases e
    obtain ⟨a, xs, rfl, ha, _⟩ := h.lst s
    exact .base (.lst ha)
  | dk es =>
    cases e
    obtain ⟨a, xs, rfl, ha, _⟩ := h.dk s
    exact .base (.dK ha)
  | dt es =>
    cases e
    obtain ⟨a, xs, rfl, ha, _⟩ := h.dt s
    exact .base (.dT ha)
  | sc ns => cases e
  | ty n => cases e
  | txt x => cases e
  | tp ds =>
    cases e
    obtain ⟨a, o, xs, rfl, ha, _⟩ := h.tp s
    exact .fTuple ha
theorem Rps.tys : ∀ {ds : List D} {vs : List V} {ns : List String}, Rps K B ds vs → tysD ds = some ns → Paired ClsV vs (ns.map Value.type)
  | _, _, ns, .nil, e => by
    cases e
    exact .nil
  | d :: ds, v :: vs, ns, .cons h r, e => by
    unfold tysD at e
    split at e
    · rename_i heq
      cases heq
    · rename_i n es heq
      cases heq
      cases hs : tysD ds with
      | none =>
        rw [hs] at e
        cases e
      | some ms =>
        rw [hs] at e
        cases e
        cases h
        exact .cons (.ty n) (Rps.tys r hs)
    · cases e
end
theorem kitAny_of {K : PySem.W.Frag} {d : D} {t : String} (h : tyN d = some t) : ∀ {ns : List String}, (ns.all fun n => knownT.contains n) = true → PySem.W.kitAny K (.type t) (ns.map Value.type) = some (ns.any fun n => tyIs t n)
  | [], _ => rfl
  | n :: ns, hn => by
    have hn : knownT.contains n = true ∧ (ns.all fun n => knownT.contains n) = true := by simpa using hn
    refine kitAny_cons (kit_ty (kit_at h hn.1)) (fun z => ?_) (fun z => ?_)
    · rw [List.any_cons, z, Bool.false_or]
      exact kitAny_of h hn.2
    · rw [List.any_cons, z]
      rfl
theorem ca_isi {g : G0} : CaI g (.builtin "isinstance") isiD := by
  refine ⟨fun xs H Q => rIsi g.K xs H Q ∨ rIsiT g.K xs H Q, fun c X hX => by rw [← hX.eK]; exact CallR.or' call_isi call_isiT, fun A B H vs env xs ds res Q S rr e q => ?_⟩
  unfold isiD at e
  split at e
  · rename_i d n
    split at e
    · rename_i t ht
      split at e
      · rename_i hn
        cases e
        obtain ⟨x, y, rfl, r1, r2⟩ := pr2 rr
        exact .inl ⟨x, y, .type t, .type n, _, rfl, by rw [r2.ty]; exact .ty n, r1.tyx S.same ht, kit_ty (kit_at ht hn), q B H _ (Same.refl _) (.im S (.bl _))⟩
      · cases e
    · cases e
  · rename_i d es
    split at e
    · rename_i t ms ht hm
      split at e
      · rename_i hn
        cases e
        obtain ⟨x, y, rfl, r1, r2⟩ := pr2 rr
        obtain ⟨a, us, rfl, ha, _, ra⟩ := r2.tup S.same
        exact .inr ⟨x, a, us, .type t, _, _, rfl, ha, ra.tys hm, r1.tyx S.same ht, kitAny_of ht hn, q B H _ (Same.refl _) (.im S (.bl _))⟩
      · cases e
    · cases e
  · cases e
/-- a built-in class as a value -/
theorem ee_ty {g : G0} {c : Ct} {x : Str} {n : String} {pos : Pos} (hg : GlC c x) (hm : g.mg x = none) (hv : bootBuiltins x = some (.type n)) (hn : x ≠ "__name__") (hdb : (x == ("__debug__" : Str)) = false) : EE g c (.Name x pos) (eC (.ty n)) :=
  ⟨tC (.ty n), fun X hX => pe_bltn (gl_of hX hg) (by rw [hX.em]; exact hm) hv rfl hn hdb, fun _ => sx_con fun _ => .ty n⟩

/-! ### texts, sign by sign; enumerate, zip of lists -/
def chD (x : Str) : List D := x.cps.toList.map fun c => D.str ⟨#[c]⟩
def mStr (m : M Vl) : M (List D) := bd m fun r e => match r with
  | .im (.str x) => some (chD x, e)
  | _ => none
section
variable {K : PySem.W.Frag} {A : Anc}
theorem wd_str {B0 : Hp} {x : Str} (ho : PyData.strOk x = true) : WD K (Its x) B0 (chD x) := by
  have hl : (chD x).length = x.cps.size := by simp [chD]
  refine ⟨fun i H B hi _ _ => ?_, fun H B _ _ => ?_, fun i H B v H' hi _ _ y => ?_⟩
  · exact walk_str.goes i H (by omega) trivial
  · rw [hl]
    exact walk_str.stops H trivial
  · obtain ⟨e1, c, h1, h2⟩ := walk_str.yields i H v H' (by omega) trivial y
    have h3 : x.cps.toList[i]? = some c := by simpa using h1
    refine ⟨.str ⟨#[c]⟩, by simp [chD, h1], .inl ⟨e1, ?_⟩⟩
    rw [h2]
    exact .str _ (ok_sub (l := [c]) ho fun c' hc' => by
      rw [List.mem_singleton.mp hc']
      exact List.mem_of_getElem? h3)
theorem si_str {t : TE} {m : M Vl} (h : SEX K A t m) : SIX K A (iStr t) (mStr m) := fun σ τ B H env pe env' ds R S hl e q => by
  obtain ⟨r, e1, he, e⟩ := bd_inv e
  split at e
  · rename_i x
    cases e
    refine h σ τ B H env pe _ _ _ S hl he fun B1 H1 v s1 hl1 hv => ?_
    obtain ⟨S1, rr⟩ := hv
    cases rr with
    | str _ ho => exact ⟨x, rfl, q B1 H1 _ s1 hl1 S1 (wd_str ho)⟩
  · cases e
theorem ei_str {g : G0} {c : Ct} {tg e : Expr} {m : M Vl} (h : EE g c e m) : EI g c tg e (mStr m) := by
  obtain ⟨t, h1, h2⟩ := h
  exact ⟨_, fun X hX => pi_str (h1 X hX), fun A => si_str (h2 A)⟩
end
end PD
namespace PD
open PySem PySem.Spec PyProof.Rows L2

/-! ### repr -/
mutual
def D.wt : D → Nat
  | .non => 4
  | .bl _ => 5
  | .int _ => 2000
  | .str x => 10 * x.length + 2
  | .tup ds => wts ds + 4
  | .lst ds => wts ds + 4
  | .tp ds => wts ds + 4
  | _ => 0
def wts : List D → Nat
  | [] => 0
  | d :: ds => d.wt + 2 + wts ds
end
def intB (i : Int) : Bool := decide (i.natAbs.log2 < 1920)
mutual
def D.shw : D → Bool
  | .non => true
  | .bl _ => true
  | .int i => intB i
  | .str _ => true
  | .tup ds => shws ds
  | .lst ds => shws ds
  | .tp ds => shws ds
  | _ => false
def shws : List D → Bool
  | [] => true
  | d :: ds => d.shw && shws ds
end
mutual
theorem shw_py : ∀ {d : D}, d.shw = true → d.py.showable = true ∧ d.isPy = true
  | .non, _ => by simp [D.py, PyData.showable, D.isPy]
  | .bl b, _ => by simp [D.py, PyData.showable, D.isPy]
  | .int i, h => by
    have h : i.natAbs.log2 < 1920 := by simpa [D.shw, intB] using h
    simp [D.py, PyData.showable, D.isPy, h]
  | .str x, _ => by simp [D.py, PyData.showable, D.isPy]
  | .tup ds, h => by
    have := shws_py (ds := ds) (by simpa [D.shw] using h)
    simp [D.py, PyData.showable, D.isPy, this]
  | .lst ds, h => by
    have := shws_py (ds := ds) (by simpa [D.shw] using h)
    simp [D.py, PyData.showable, D.isPy, this]
  | .dk _, h => by simp [D.shw] at h
  | .dt _, h => by simp [D.shw] at h
  | .sc _, h => by simp [D.shw] at h
  | .ty _, h => by simp [D.shw] at h
  | .txt _, h => by simp [D.shw] at h
  | .tp ds, h => by
    have := shws_py (ds := ds) (by simpa [D.shw] using h)
    simp [D.py, PyData.showable, D.isPy, this]
theorem shws_py : ∀ {ds : List D}, shws ds = true → PyData.showableAll (pys ds) = true ∧ arePy ds = true
  | [], _ => by simp [pys, PyData.showableAll, arePy]
  | d :: ds, h => by
    have h : d.shw = true ∧ shws ds = true := by simpa [shws] using h
    have h1 := shw_py h.1
    have h2 := shws_py h.2
    simp [pys, PyData.showableAll, arePy, h1, h2]
end
theorem len_app (x y : Str) : (x ++ y).length = x.length + y.length := by
  show (x.cps ++ y.cps).size = _
  rw [Array.size_append]
  rfl
theorem textFrom_le : ∀ (ts : List Str) (k : Nat) (acc : Str), (textFrom k acc ts).length ≤ acc.length + (ts.map fun t => t.length + 2).sum
  | [], k, acc => by
    show acc.length ≤ _
    omega
  | t :: r, k, acc => by
    have ih := textFrom_le r (k + 1) (acc ++ (if k > 0 then ", " else "" : String) ++ t)
    have e : (acc ++ (if k > 0 then ", " else "" : String) ++ t : Str).length ≤ acc.length + 2 + t.length := by
      rw [len_app, len_app]
      have : (Str.ofString (if k > 0 then ", " else "")).length ≤ 2 := by
        split <;> decide +kernel
      omega
    show (textFrom (k + 1) _ r).length ≤ _
    rw [List.map_cons, List.sum_cons]
    omega
theorem joinS_le : ∀ ts : List Str, (Str.join ", " ts).length ≤ (ts.map fun t => t.length + 2).sum
  | [] => by
    show (Str.join ", " []).length ≤ 0
    decide +kernel
  | x :: r => by
    have h := join_length_add (x :: r) (by simp)
    have p : piled (x :: r) = ((x :: r).map fun t => t.length + 2).sum := rfl
    rw [p] at h
    omega
theorem int_len (i : Int) (h : i.natAbs.log2 < 1920) : (Str.ofString (toString i)).length ≤ 2000 := by
  have e := int_text_length_le (k := 1920) (by decide) h
  rw [PySem.ofString_length]
  omega
mutual
theorem shown_le : ∀ {d : D} {K : PySem.W.Frag} {B : Hp} {v : V}, d.shw = true → Rp K B d v → d.py.shown.length ≤ d.wt
  | .non, _, _, _, _, _ => by simp only [D.py, PyData.shown, D.wt]; decide +kernel
  | .bl b, _, _, _, _, _ => by
    simp only [D.py, PyData.shown, D.wt]
    cases b <;> decide +kernel
  | .int i, _, _, _, h, _ => by
    simp only [D.py, PyData.shown, D.wt]
    exact int_len i (by simpa [D.shw, intB] using h)
  | .str x, _, _, _, _, r => by
    simp only [D.py, PyData.shown, D.wt]
    cases r with
    | str _ ho => exact StrLaws.reprText_len x fun c hc => Nat.lt_of_lt_of_le (ok_mem.mp ho c hc) (by decide)
  | .tup ds, _, _, _, h, r => by
    simp only [D.py, PyData.shown, D.wt]
    cases r with
    | tup _ rr =>
      have := showns_le (ds := ds) (by simpa [D.shw] using h) rr
      unfold tupleText
      rw [len_app, len_app]
      have j := joinS_le (PyData.shownAll (pys ds))
      have e1 : (Str.ofString "(").length = 1 := by decide +kernel
      have e2 : (Str.ofString (if (PyData.shownAll (pys ds)).length == 1 then ",)" else ")")).length ≤ 2 := by
        split <;> decide +kernel
      omega
  | .lst ds, _, _, _, h, r => by
    simp only [D.py, PyData.shown, D.wt]
    cases r with
    | lst _ rr =>
      have := showns_le (ds := ds) (by simpa [D.shw] using h) rr
      unfold listText
      rw [len_app]
      have j := textFrom_le (PyData.shownAll (pys ds)) 0 (Str.ofString "[")
      have e1 : (Str.ofString "[").length = 1 := by decide +kernel
      have e2 : (Str.ofString "]").length = 1 := by decide +kernel
      omega
  | .dk _, _, _, _, h, _ => by simp [D.shw] at h
  | .dt _, _, _, _, h, _ => by simp [D.shw] at h
  | .sc _, _, _, _, h, _ => by simp [D.shw] at h
  | .ty _, _, _, _, h, _ => by simp [D.shw] at h
  | .txt _, _, _, _, h, _ => by simp [D.shw] at h
  | .tp ds, _, _, _, h, r => by
    simp only [D.py, PyData.shown, D.wt]
    cases r with
    | tp _ _ rr =>
      have := showns_le (ds := ds) (by simpa [D.shw] using h) rr
      unfold tupleText
      rw [len_app, len_app]
      have j := joinS_le (PyData.shownAll (pys ds))
      have e1 : (Str.ofString "(").length = 1 := by decide +kernel
      have e2 : (Str.ofString (if (PyData.shownAll (pys ds)).length == 1 then ",)" else ")")).length ≤ 2 := by
        split <;> decide +kernel
      omega
theorem showns_le : ∀ {ds : List D} {K : PySem.W.Frag} {B : Hp} {vs : List V}, shws ds = true → Rps K B ds vs → ((PyData.shownAll (pys ds)).map fun t => t.length + 2).sum ≤ wts ds
  | [], _, _, _, _, _ => by simp [pys, PyData.shownAll, wts]
  | d :: ds, _, _, _, h, .cons r1 r2 => by
    have h : d.shw = true ∧ shws ds = true := by simpa [shws] using h
    have h1 := shown_le h.1 r1
    have h2 := showns_le h.2 r2
    simp only [pys, PyData.shownAll, wts, List.map_cons, List.sum_cons]
    omega
end

/-- repr(x) -/
def reprD : List D → Option Vl
  | [d] => if (d.shw && small d.wt && depB 60 d) = true then some (.im (.txt d.py.shown)) else none
  | _ => none
def rRepr (K : PySem.W.Frag) : List V → Hp → VK → Prop := fun xs H Q => ∃ x d, xs = [x] ∧ Dp K H x d ∧ d.showable = true ∧ d.canLay0 = true ∧ d.shown.length ≤ sizeLine ∧ d.depth ≤ 60 ∧ Q (.str d.shown) H
theorem call_reprD {X : Cx} {k : Nat} (hr : Room k X.A) (hg : X.A.guards = some []) : CallR X (.builtin "repr") (rRepr X.K) := by
  intro pins s σ H xs us Q I r h
  obtain ⟨x, d, rfl, hd, sh, lay, sz, dep, q⟩ := h
  obtain ⟨u, rfl, ru⟩ := vals1 r
  cases hd with
  | non =>
    cases ru
    simp only [PyData.shown] at q sz
    exact call_repr_gives (PySem.typeIs_none s) F.slot_NoneType_repr F.entry_NoneType_repr (F.args_NoneType_repr_1 _) gives_none_repr ⟨.str _, H, I.tok _, ⟨_, rfl⟩, q⟩ (hx := sz)
  | bl b =>
    cases ru
    simp only [PyData.shown] at q sz
    exact call_repr_gives (PySem.typeIs_bool s b) F.slot_bool_repr F.entry_bool_repr (F.args_bool_repr_1 _) (gives_bool_repr b) ⟨.str _, H, I.tok _, ⟨_, rfl⟩, q⟩ (hx := sz)
  | int i =>
    obtain ⟨t, rfl⟩ := ru
    simp only [PyData.shown] at q sz
    exact PySem.P.repr_of_int (by simpa [PyData.showable] using sh) ⟨.str _, H, I.tok _, ⟨_, rfl⟩, q⟩
  | str z =>
    obtain ⟨t, rfl⟩ := ru
    simp only [PyData.shown] at q sz
    exact call_repr_gives (PySem.typeIs_str s z t) F.slot_str_repr F.entry_str_repr (F.args_str_repr_1 _) (gives_str_repr z t) ⟨.str _, H, I.tok _, ⟨_, rfl⟩, q⟩ (hx := sz)
  | lst hs ha =>
    cases ru
    obtain ⟨as, rd⟩ := Dp.reads I _ _ _ (Dp.lst hs ha) rfl
    refine repr_of_reads' rd sh (PyData.noDict_hsm (PyData.hasDict_of_canLay _ lay)) hg (by have := hr.un; omega) (fun _ _ e => e) (fun h' u tk hk => ?_) sz
    exact ⟨.str _, H, I.kept (t' := tk) hk, ⟨u, rfl⟩, q⟩
  | tup hs ha =>
    cases ru
    obtain ⟨as, rd⟩ := Dp.reads I _ _ _ (Dp.tup hs ha) rfl
    refine repr_of_reads' rd sh (PyData.noDict_hsm (PyData.hasDict_of_canLay _ lay)) hg (by have := hr.un; omega) (fun _ _ e => e) (fun h' u tk hk => ?_) sz
    exact ⟨.str _, H, I.kept (t' := tk) hk, ⟨u, rfl⟩, q⟩
theorem listText_le {ds : List D} (h : ((PyData.shownAll (pys ds)).map fun t => t.length + 2).sum ≤ wts ds) : (listText (PyData.shownAll (pys ds))).length ≤ wts ds + 4 := by
  unfold listText
  rw [len_app]
  have j := textFrom_le (PyData.shownAll (pys ds)) 0 (Str.ofString "[")
  have e1 : (Str.ofString "[").length = 1 := by decide +kernel
  have e2 : (Str.ofString "]").length = 1 := by decide +kernel
  omega
theorem shown_leR {K : PySem.W.Frag} {B H : Hp} {d : D} {v : V} (h : d.shw = true) (r : Rr K B H d v) : d.py.shown.length ≤ d.wt := by
  cases r with
  | fz r => exact shown_le h r
  | ct c =>
    rename_i p
    generalize e : H p = o at c
    cases c with
    | @lst xs ds r =>
      simp only [D.py, PyData.shown, D.wt]
      exact listText_le (showns_le (by simpa [D.shw] using h) r)
    | dk _ _ => simp [D.shw] at h
    | dt _ _ => simp [D.shw] at h
theorem ca_repr {g : G0} : CaI g (.builtin "repr") reprD := by
  refine ⟨rRepr g.K, fun c X hX => by rw [← hX.eK]; exact call_reprD hX.room hX.gu, fun A B H vs env xs ds res Q S rr e q => ?_⟩
  unfold reprD at e
  split at e
  · rename_i d
    split at e
    · rename_i hd
      cases e
      simp only [Bool.and_eq_true] at hd
      obtain ⟨⟨h1, h2⟩, h3⟩ := hd
      obtain ⟨x, rfl, r⟩ := pr1 rr
      exact ⟨x, d.py, rfl, r.dp S.same (shw_py h1).2, (shw_py h1).1, r.lay, Nat.le_trans (shown_leR h1 r) (of_decide_eq_true h2), of_decide_eq_true h3, q B H _ (Same.refl _) (.im S (.txt _))⟩
    · cases e
  · cases e
end PD
namespace PD
open PySem PySem.Spec PyProof.Rows L2

/-! ### methods that read -/
def mth (r : V → List V → Hp → VK → Prop) : List V → Hp → VK → Prop := fun xs H Q => match xs with
  | x :: ys => r x ys H Q
  | [] => False
/-- d is of the class T, and its methods are looked up there -/
def tyT (T : String) : D → Bool
  | .str _ => T == "str"
  | .lst _ => T == "list"
  | .sc _ => T == "list"
  | .dk _ => T == "dict"
  | .dt _ => T == "dict"
  | _ => false
theorem tyT_ok {K : PySem.W.Frag} {B H : Hp} {T : String} {d : D} {v : V} (s : Same B H) (h : tyT T d = true) (r : Rr K B H d v) : tyV K T v H := by
  cases d with
  | str x =>
    rw [r.str.1]
    exact eq_of_beq h
  | lst ds =>
    obtain ⟨a, xs, rfl, ha, _⟩ := r.lst s
    exact .inl ⟨eq_of_beq h, xs, .of ha⟩
  | sc ns =>
    obtain ⟨a, rfl, ha⟩ := r.sc s
    exact .inl ⟨eq_of_beq h, _, ha⟩
  | dk es =>
    obtain ⟨a, xs, rfl, ha, _⟩ := r.dk s
    exact .inr (.inr (.inl ⟨eq_of_beq h, .inl ⟨_, ha⟩⟩))
  | dt es =>
    obtain ⟨a, xs, rfl, ha, _⟩ := r.dt s
    exact .inr (.inr (.inl ⟨eq_of_beq h, .inr ⟨_, ha⟩⟩))
  | _ => cases h
def ckT (T : String) (r : Vl) : M Unit := fun e => match cnt e r with
  | some d => if tyT T d = true then some ((), e) else none
  | none => none
def eM (T : String) (f : List D → Option Vl) (m : M Vl) (ms : M (List Vl)) : M Vl := bd m fun r => bd (ckT T r.hold) fun _ => bd ms fun rs e => match cnts e (r.hold :: rs) with
  | some ds => match f ds with
    | some (.im d) => some (.im d, e)
    | some (.fr d) => some (.fr d, e)
    | _ => none
  | none => none
section
variable {K : PySem.W.Frag} {A : Anc}
theorem ckT_inv {T : String} {r : Vl} {e e' : Env} {u : Unit} (h : ckT T r e = some (u, e')) : ∃ d, cnt e r = some d ∧ tyT T d = true ∧ e' = e := by
  unfold ckT at h
  split at h
  · rename_i d hd
    split at h
    · rename_i ht
      cases h
      exact ⟨d, hd, ht, rfl⟩
    · cases h
  · cases h
theorem sx_meth {T : String} {r : V → List V → Hp → VK → Prop} {f : List D → Option Vl} {to : TE} {ta : TA} {m : M Vl} {ms : M (List Vl)} (hp : PrS K (mth r) f) (ho : SEX K A to m) (ha : SAX K A ta ms) : SEX K A (tBM K T r to ta) (eM T f m ms) := fun σ τ B H env pe env' res Q S hl e q => by
  obtain ⟨r0, e2, h1, f1⟩ := bd_inv e
  obtain ⟨u, e2', h2, f2⟩ := bd_inv f1
  obtain ⟨d, hd, ht, he⟩ := ckT_inv h2
  rw [he] at f2
  obtain ⟨rs, e3, h3, f3⟩ := bd_inv f2
  clear e f1 f2 h2
  refine ho σ τ B H env pe e2 r0 _ S hl h1 fun B1 H1 v s1 hl1 hv => ?_
  obtain ⟨B2, s2, S2, hh⟩ := hv.held
  refine ⟨tyT_ok S2.same ht (hh.rr S2 hl1 hd), ?_⟩
  refine ha σ τ B2 H1 e2 pe e3 rs _ S2 hl1 h3 fun B3 H3 vs s3 hl3 S3 hr => ?_
  split at f3
  · rename_i ds hc
    have rr := Hv.rrs S3 hl3 (.cons (hh.mono s3) hr) hc
    split at f3
    · rename_i d' hf
      cases f3
      exact hp A B3 H3 (σ ++ τ) (env' ++ pe) (v :: vs) ds _ Q S3 rr hf fun B4 H4 w s4 h4 => q B4 H4 w ((s1.trans s2).trans (s3.trans s4)) hl3 h4
    · rename_i d' hf
      cases f3
      exact hp A B3 H3 (σ ++ τ) (env' ++ pe) (v :: vs) ds _ Q S3 rr hf fun B4 H4 w s4 h4 => q B4 H4 w ((s1.trans s2).trans (s3.trans s4)) hl3 h4
    · cases f3
  · cases f3
theorem sx_meth0 {T : String} {r : V → List V → Hp → VK → Prop} {f : List D → Option Vl} {to : TE} {m : M Vl} (hp : PrS K (mth r) f) (ho : SEX K A to m) : SEX K A (tBM0 K T r to) (eM T f m cN) := fun σ τ B H env pe env' res Q S hl e q =>
  sx_meth (T := T) hp ho sa_nil σ τ B H env pe env' res Q S hl e q
end
section
variable {g : G0} {c : Ct} {o e : Expr} {es : List Expr} {m : M Vl} {ms : M (List Vl)} {pos apos : Pos} {T id : String} {name : Str} {f : List D → Option Vl}
structure MeI (g : G0) (T : String) (name : Str) (id : String) (f : List D → Option Vl) : Prop where
  pa : PlainAttrs T
  slot : Slot T name id
  ty : typeOf (.builtin id) = pure (.type "method_descriptor")
  run : ∃ r : V → List V → Hp → VK → Prop, (∀ c X, Cok g c X → MtR X id r) ∧ PrS g.K (mth r) f
theorem ee_meth (M : MeI g T name id f) (h : EE g c o m) (h' : EA g c (e :: es) ms) (pl : Pl e) (hb : ∀ env : PySem.Env, attributeBase o name env (eval o env) = eval o env)
    (hf : ∀ env : PySem.Env, ((backTo pos (starEach (e :: es) env)).all (fun x => !x.1) && (backToKw pos (keywordEach [] env)).all (fun x => x.1.isSome)
      && decide ((e :: es).length + ([] : List Keyword).length + (if ([] : List Keyword).isEmpty then 0 else 1) < 30)) = true) (hl : (apos.endLine == pos.line) = true) (hp : ∀ env : PySem.Env, (backTo pos (starEach es env)).any (·.1) = false) :
    EE g c (.Call (.Attribute o name apos) (e :: es) [] pos) (eM T f m ms) := by
  obtain ⟨t1, h1, k1⟩ := h
  obtain ⟨t2, h2, k2⟩ := h'
  obtain ⟨r, hr, hpr⟩ := M.run
  exact ⟨tBM g.K T r t1 t2, fun X hX => by
    rw [← hX.eK]
    exact pe_bm M.pa M.slot M.ty (hr c X hX) (h1 X hX) (h2 X hX) (hb _) (hf _) hl (pl es X.env) (hp _), fun A => sx_meth hpr (k1 A) (k2 A)⟩
theorem ee_meth0 (M : MeI g T name id f) (h : EE g c o m) (hb : ∀ env : PySem.Env, attributeBase o name env (eval o env) = eval o env) (hl : (apos.endLine == pos.line) = true) :
    EE g c (.Call (.Attribute o name apos) [] [] pos) (eM T f m cN) := by
  obtain ⟨t1, h1, k1⟩ := h
  obtain ⟨r, hr, hpr⟩ := M.run
  exact ⟨tBM0 g.K T r t1, fun X hX => by
    rw [← hX.eK]
    exact pe_bm0 M.pa M.slot M.ty (hr c X hX) (h1 X hX) (hb _) hl, fun A => sx_meth0 hpr (k1 A)⟩

/-- x.count(y), texts -/
def countD : List D → Option Vl
  | [.str x, .str y] => some (.im (.int (Txt.count x y)))
  | _ => none
theorem me_count : MeI g "str" "count" "str.count" countD := ⟨F.plainAttrs_str, F.slot_str_count, F.type_str_count, _, fun c X hX => mt_count, fun A B H vs env xs ds res Q S rr e q => by
  unfold countD at e
  split at e
  · rename_i x y
    cases e
    obtain ⟨a, b, rfl, r1, r2⟩ := pr2 rr
    exact ⟨x, y, r1.str.1, by rw [r2.str.1], q B H _ (Same.refl _) (.im S (.int _))⟩
  · cases e⟩
/-- x.upper() -/
def upperD : List D → Option Vl
  | [.str x] => if (decide (x.length ≤ 5592405) && PyData.strOk (Txt.upper x)) = true then some (.im (.str (Txt.upper x))) else none
  | _ => none
theorem me_upper : MeI g "str" "upper" "str.upper" upperD := ⟨F.plainAttrs_str, F.slot_str_upper, F.type_str_upper, _, fun c X hX => mt_upper, fun A B H vs env xs ds res Q S rr e q => by
  unfold upperD at e
  split at e
  · rename_i x
    split at e
    · rename_i hx
      cases e
      simp only [Bool.and_eq_true] at hx
      obtain ⟨a, rfl, r1⟩ := pr1 rr
      exact ⟨x, r1.str.1, rfl, of_decide_eq_true hx.1, q B H _ (Same.refl _) (.im S (.str _ hx.2))⟩
    · cases e
  · cases e⟩
/-- x.join(y) -/
def joinD : List D → Option Vl
  | [.str x, .lst ds] => match strsD ds with
    | some ys => if (decide ((ys.map (·.length)).sum + ys.length * x.length ≤ 16777216) && PyData.strOk (Txt.join x ys)) = true then some (.im (.str (Txt.join x ys))) else none
    | none => none
  | [.str x, .tup ds] => match strsD ds with
    | some ys => if (decide ((ys.map (·.length)).sum + ys.length * x.length ≤ 16777216) && PyData.strOk (Txt.join x ys)) = true then some (.im (.str (Txt.join x ys))) else none
    | none => none
  | _ => none
theorem me_join : MeI g "str" "join" "str.join" joinD := ⟨F.plainAttrs_str, F.slot_str_join, F.type_str_join, _, fun c X hX => by
    have := @mt_join X
    rw [hX.eK] at this
    exact this, fun A B H vs env xs ds res Q S rr e q => by
  unfold joinD at e
  split at e
  · rename_i x ds
    split at e
    · rename_i ys hy
      split at e
      · rename_i hx
        cases e
        simp only [Bool.and_eq_true] at hx
        obtain ⟨a, b, rfl, r1, r2⟩ := pr2 rr
        obtain ⟨p, us, rfl, hp, ru⟩ := r2.lst S.same
        rw [strsD_map hy] at ru
        exact ⟨x, p, ys, r1.str.1, rfl, .inl (by rw [← ru.strs]; exact .of hp), of_decide_eq_true hx.1, q B H _ (Same.refl _) (.im S (.str _ hx.2))⟩
      · cases e
    · cases e
  · rename_i x ds
    split at e
    · rename_i ys hy
      split at e
      · rename_i hx
        cases e
        simp only [Bool.and_eq_true] at hx
        obtain ⟨a, b, rfl, r1, r2⟩ := pr2 rr
        obtain ⟨p, us, rfl, hp, _, ru⟩ := r2.tup S.same
        rw [strsD_map hy] at ru
        exact ⟨x, p, ys, r1.str.1, rfl, .inr (by rw [← ru.strs]; exact .inl (.inl hp)), of_decide_eq_true hx.1, q B H _ (Same.refl _) (.im S (.str _ hx.2))⟩
      · cases e
    · cases e
  · cases e⟩
end

/-! ### methods that change a list -/
def mutAtD (e : Env) (i : Nat) : Option D := match e[i]? with
  | some (.ow d) => some d
  | some (.io _ d) => some d
  | _ => none
/-- the receiver's content and the arguments: the new content, the answer -/
def eU (T : String) (f : D → List D → Option (D × D)) (m : M Vl) (ms : M (List Vl)) : M Vl := bd m fun r => match r with
  | .bo i => bd (ckT T (.bo i)) fun _ => bd ms fun rs => bd (frzs rs) fun ds e => match mutAtD e i with
    | some d0 => match f d0 ds with
      | some (d', x) => some (.im x, putC e i d')
      | none => none
    | none => none
  | _ => fun _ => none
def MuS (K : PySem.W.Frag) (r : V → List V → Hp → VK → Prop) (f : D → List D → Option (D × D)) : Prop :=
  ∀ (B H : Hp) (p : Addr) (d0 d' x : D) (ds : List D) (xs : List V) (Q : VK), Same B H → Cont K B d0 (H p) → Rps K B ds xs → f d0 ds = some (d', x) → (∀ o v, Cont K B d' (some o) → Rp K B x v → Q v (upd H p o)) → r (.ref p) xs H Q
section
variable {K : PySem.W.Frag} {A : Anc}
theorem mutAtD_at {B H : Hp} {σ τ : L2.St} {env pe : Env} {i : Nat} {d0 : D} {v : V} (S : SR K A B H (σ ++ τ) (env ++ pe)) (hl : σ.length = env.length) (h : σ[i]? = some (some v)) (m : mutAtD env i = some d0) : ∃ p, v = .ref p ∧ Cont K B d0 (H p) ∧ ∀ d' o, Cont K B d' (some o) → SR K A B (upd H p o) (σ ++ τ) (putC env i d' ++ pe) := by
  have hj := (List.getElem?_eq_some_iff.mp h).1
  unfold mutAtD at m
  split at m
  · rename_i d he
    cases m
    have hi := (List.getElem?_eq_some_iff.mp he).1
    cases S.at hl he h with
    | ow b h0 c =>
      rename_i p
      refine ⟨p, rfl, c, fun d' o cc => ?_⟩
      have := S.write (i := i) (p := p) (sl := .ow d0) (sl' := .ow d') (d := d0) (by rw [List.getElem?_append_left hi]; exact he) (.inl ⟨rfl, rfl⟩) (by rw [List.getElem?_append_left hj]; exact h) cc
      rw [List.set_append_left _ _ hi] at this
      unfold putC
      rw [he]
      exact this
  · rename_i j d he
    cases m
    have hi := (List.getElem?_eq_some_iff.mp he).1
    cases S.at hl he h with
    | io h0 c =>
      rename_i p
      refine ⟨p, rfl, c, fun d' o cc => ?_⟩
      have := S.write (i := i) (p := p) (sl := .io j d0) (sl' := .io j d') (d := d0) (by rw [List.getElem?_append_left hi]; exact he) (.inr ⟨j, rfl, rfl⟩) (by rw [List.getElem?_append_left hj]; exact h) cc
      rw [List.set_append_left _ _ hi] at this
      unfold putC
      rw [he]
      exact this
  · cases m
theorem sx_mut {T : String} {r : V → List V → Hp → VK → Prop} {f : D → List D → Option (D × D)} {to : TE} {ta : TA} {m : M Vl} {ms : M (List Vl)} (hp : MuS K r f) (ho : SEX K A to m) (ha : SAX K A ta ms) : SEX K A (tBM K T r to ta) (eU T f m ms) := fun σ τ B H env pe env' res Q S hl e q => by
  obtain ⟨r0, e2, h1, f1⟩ := bd_inv e
  cases r0 with
  | bo i =>
    dsimp only at f1
    obtain ⟨u, e2', h2, f2⟩ := bd_inv f1
    obtain ⟨d, hd, ht, he⟩ := ckT_inv h2
    rw [he] at f2
    obtain ⟨rs, e3, h3, f3⟩ := bd_inv f2
    obtain ⟨ds, e4, h4, f4⟩ := bd_inv f3
    clear e f1 f2 f3 h2
    refine ho σ τ B H env pe e2 _ _ S hl h1 fun B1 H1 v s1 hl1 hv => ?_
    obtain ⟨B2, s2, S2, hh⟩ := hv.held
    refine ⟨tyT_ok S2.same ht (hh.rr S2 hl1 hd), ?_⟩
    refine ha σ τ B2 H1 e2 pe e3 rs _ S2 hl1 h3 fun B3 H3 vs s3 hl3 S3 hr => ?_
    obtain ⟨B4, s4, S4, hl4, rr⟩ := frzs_ok S3 hl3 hr h4
    split at f4
    · rename_i d0 hm
      split at f4
      · rename_i d' x hf
        cases f4
        obtain ⟨p, rfl, c, hw⟩ := mutAtD_at S4 hl4 hh hm
        refine hp B4 H3 p d0 d' x ds vs Q S4.same c rr hf fun o w c' r' => ?_
        exact q B4 _ w ((s1.trans s2).trans (s3.trans s4)) (by rw [putC_length]; exact hl4) ⟨hw d' o c', r'⟩
      · cases f4
    · cases f4
  | im d => cases f1
  | fr d => cases f1
theorem sx_mut0 {T : String} {r : V → List V → Hp → VK → Prop} {f : D → List D → Option (D × D)} {to : TE} {m : M Vl} (hp : MuS K r f) (ho : SEX K A to m) : SEX K A (tBM0 K T r to) (eU T f m cN) := fun σ τ B H env pe env' res Q S hl e q =>
  sx_mut (T := T) hp ho sa_nil σ τ B H env pe env' res Q S hl e q
end
section
variable {g : G0} {c : Ct} {o e : Expr} {es : List Expr} {m : M Vl} {ms : M (List Vl)} {pos apos : Pos} {T id : String} {name : Str} {f : D → List D → Option (D × D)}
structure MuI (g : G0) (T : String) (name : Str) (id : String) (f : D → List D → Option (D × D)) : Prop where
  pa : PlainAttrs T
  slot : Slot T name id
  ty : typeOf (.builtin id) = pure (.type "method_descriptor")
  run : ∃ r : V → List V → Hp → VK → Prop, (∀ c X, Cok g c X → MtR X id r) ∧ MuS g.K r f
theorem ee_mut (M : MuI g T name id f) (h : EE g c o m) (h' : EA g c (e :: es) ms) (pl : Pl e) (hb : ∀ env : PySem.Env, attributeBase o name env (eval o env) = eval o env)
    (hf : ∀ env : PySem.Env, ((backTo pos (starEach (e :: es) env)).all (fun x => !x.1) && (backToKw pos (keywordEach [] env)).all (fun x => x.1.isSome)
      && decide ((e :: es).length + ([] : List Keyword).length + (if ([] : List Keyword).isEmpty then 0 else 1) < 30)) = true) (hl : (apos.endLine == pos.line) = true) (hp : ∀ env : PySem.Env, (backTo pos (starEach es env)).any (·.1) = false) :
    EE g c (.Call (.Attribute o name apos) (e :: es) [] pos) (eU T f m ms) := by
  obtain ⟨t1, h1, k1⟩ := h
  obtain ⟨t2, h2, k2⟩ := h'
  obtain ⟨r, hr, hpr⟩ := M.run
  exact ⟨tBM g.K T r t1 t2, fun X hX => by
    rw [← hX.eK]
    exact pe_bm M.pa M.slot M.ty (hr c X hX) (h1 X hX) (h2 X hX) (hb _) (hf _) hl (pl es X.env) (hp _), fun A => sx_mut hpr (k1 A) (k2 A)⟩
theorem ee_mut0 (M : MuI g T name id f) (h : EE g c o m) (hb : ∀ env : PySem.Env, attributeBase o name env (eval o env) = eval o env) (hl : (apos.endLine == pos.line) = true) :
    EE g c (.Call (.Attribute o name apos) [] [] pos) (eU T f m cN) := by
  obtain ⟨t1, h1, k1⟩ := h
  obtain ⟨r, hr, hpr⟩ := M.run
  exact ⟨tBM0 g.K T r t1, fun X hX => by
    rw [← hX.eK]
    exact pe_bm0 M.pa M.slot M.ty (hr c X hX) (h1 X hX) (hb _) hl, fun A => sx_mut0 hpr (k1 A)⟩
def lessL (n : Nat) : Bool := decide (n < sizeLine)
def appendD : D → List D → Option (D × D)
  | .lst ds, [d] => if lessL ds.length = true then some (.lst (ds ++ [d]), .non) else none
  | _, _ => none
theorem cont_lst {K : PySem.W.Frag} {B : Hp} {ds : List D} {o : Option HO} (c : Cont K B (.lst ds) o) : ∃ xs, o = some (.lst xs) ∧ Rps K B ds xs := by
  cases c with
  | lst r => exact ⟨_, rfl, r⟩
theorem rps1 {K : PySem.W.Frag} {B : Hp} {d : D} {xs : List V} (r : Rps K B [d] xs) : ∃ x, xs = [x] ∧ Rp K B d x := by
  cases r with
  | cons r t =>
    cases t
    exact ⟨_, rfl, r⟩
theorem rps2 {K : PySem.W.Frag} {B : Hp} {d e : D} {xs : List V} (r : Rps K B [d, e] xs) : ∃ x y, xs = [x, y] ∧ Rp K B d x ∧ Rp K B e y := by
  cases r with
  | cons r t =>
    obtain ⟨y, rfl, r2⟩ := rps1 t
    exact ⟨_, y, rfl, r, r2⟩
theorem mu_append : MuI g "list" "append" "list.append" appendD := ⟨F.plainAttrs_list, F.slot_list_append, F.type_list_append, _, fun c X hX => mt_append, fun B H p d0 d' x ds xs Q s c r e q => by
  unfold appendD at e
  split at e
  · rename_i ds0 d
    split at e
    · rename_i hl
      cases e
      obtain ⟨ys, hy, rr⟩ := cont_lst c
      obtain ⟨v, rfl, rv⟩ := rps1 r
      exact ⟨p, ys, v, rfl, rfl, hy, by rw [← rr.length]; exact of_decide_eq_true hl, q _ _ (.lst (rr.app (.one rv))) .non⟩
    · cases e
  · cases e⟩
def reverseD : D → List D → Option (D × D)
  | .lst ds, [] => some (.lst ds.reverse, .non)
  | _, _ => none
theorem mu_reverse : MuI g "list" "reverse" "list.reverse" reverseD := ⟨F.plainAttrs_list, F.slot_list_reverse, F.type_list_reverse, _, fun c X hX => mt_reverse, fun B H p d0 d' x ds xs Q s c r e q => by
  unfold reverseD at e
  split at e
  · cases e
    obtain ⟨ys, hy, rr⟩ := cont_lst c
    cases r
    exact ⟨p, ys, rfl, rfl, hy, q _ _ (.lst rr.rev) .non⟩
  · cases e⟩
def extendD : D → List D → Option (D × D)
  | .lst ds, [.lst es] => if small (ds.length + es.length) = true then some (.lst (ds ++ es), .non) else none
  | _, _ => none
theorem mu_extend : MuI g "list" "extend" "list.extend" extendD := ⟨F.plainAttrs_list, F.slot_list_extend, F.type_list_extend, _, fun c X hX => mt_extend, fun B H p d0 d' x ds xs Q s c r e q => by
  unfold extendD at e
  split at e
  · rename_i ds0 d
    split at e
    · rename_i hl
      cases e
      obtain ⟨ys, hy, rr⟩ := cont_lst c
      obtain ⟨v, rfl, rv⟩ := rps1 r
      cases rv with
      | lst h r2 => exact ⟨p, _, ys, _, rfl, rfl, hy, s _ _ h, by rw [← rr.length, ← r2.length]; exact of_decide_eq_true hl, q _ _ (.lst (rr.app r2)) .non⟩
    · cases e
  · cases e⟩
def popD : D → List D → Option (D × D)
  | .lst ds, [] => match ds[ds.length - 1]? with
    | some d => some (.lst ds.dropLast, d)
    | none => none
  | .lst ds, [.int i] => if (decide (-(2 ^ 63) ≤ i) && decide (i < 2 ^ 63)) = true then match seqIndex? i ds.length with
    | some k => match ds[k]? with
      | some d => some (.lst (ds.eraseIdx k), d)
      | none => none
    | none => none
    else none
  | _, _ => none
theorem mtM_or {X : Cx} {id : String} {r r' : V → List V → Hp → VK → Prop} (h : MtM X id r) (h' : MtM X id r') : MtR X id (fun x xs H Q => r x xs H Q ∨ r' x xs H Q) := MtR.or (id := id) h h'
theorem rps_dropLast {K : PySem.W.Frag} {B : Hp} : ∀ {ds : List D} {vs : List V}, Rps K B ds vs → Rps K B ds.dropLast vs.dropLast
  | _, _, .nil => .nil
  | _, _, .cons _ .nil => .nil
  | _, _, .cons r (.cons r2 t) => .cons r (rps_dropLast (.cons r2 t))
theorem mu_pop : MuI g "list" "pop" "list.pop" popD := ⟨F.plainAttrs_list, F.slot_list_pop, F.type_list_pop, _, fun c X hX => mtM_or mt_pop mt_popAt, fun B H p d0 d' x ds xs Q s c r e q => by
  unfold popD at e
  split at e
  · rename_i ds0
    split at e
    · rename_i d hd
      cases e
      obtain ⟨ys, hy, rr⟩ := cont_lst c
      cases r
      obtain ⟨v, hv, rv⟩ := rr.get hd
      exact .inl ⟨p, ys, v, rfl, rfl, hy, by rw [← rr.length]; exact hv, q _ _ (.lst (rps_dropLast rr)) rv⟩
    · cases e
  · rename_i ds0 i
    split at e
    · rename_i hi
      split at e
      · rename_i k hk
        split at e
        · rename_i d hd
          cases e
          simp only [Bool.and_eq_true, decide_eq_true_eq] at hi
          obtain ⟨ys, hy, rr⟩ := cont_lst c
          obtain ⟨v, rfl, rv⟩ := rps1 r
          cases rv
          obtain ⟨w, hw, rw'⟩ := rr.get hd
          exact .inr ⟨p, ys, i, k, w, rfl, rfl, hy, hi.1, hi.2, by rw [← rr.length]; exact hk, hw, q _ _ (.lst (rr.erase k)) rw'⟩
        · cases e
      · cases e
    · cases e
  · cases e⟩
end

/-! ### x[i] = v -/
def gS (f : D → D → D → Option D) (m mi : M Vl) : Vl → M Unit := fun r => bd (frz r.hold) fun d => bd m fun r0 => match r0 with
  | .bo i => bd mi fun r1 e => match mutAtD e i, cnt e r1.hold with
    | some d0, some k => match f d0 k d with
      | some d' => some ((), putC e i d')
      | none => none
    | _, _ => none
  | _ => fun _ => none
def PutS (K : PySem.W.Frag) (t : TSet) (f : D → D → D → Option D) : Prop :=
  ∀ (B H : Hp) (p : Addr) (k v : V) (d0 dk d d' : D) (Q : Hp → Prop), Same B H → Cont K B d0 (H p) → Rr K B H dk k → Rp K B d v → f d0 dk d = some d' → (∀ o, Cont K B d' (some o) → Q (upd H p o)) → t (.ref p) k v H Q
theorem sg_sub {K : PySem.W.Frag} {A : Anc} {to ti : TE} {t : TSet} {f : D → D → D → Option D} {m mi : M Vl} (hp : PutS K t f) (ho : SEX K A to m) (hi : SEX K A ti mi) : SGX K A [] (gSub to ti t) (gS f m mi) := fun σ τ B H env pe env' r v Q hv hl e q => by
  obtain ⟨B0, s0, S0, hh0⟩ := hv.held
  obtain ⟨d, e1, h1, f1⟩ := bd_inv e
  obtain ⟨B1, s1, S1, hl1, rd⟩ := frz_ok S0 hl hh0 h1
  obtain ⟨r0, e2, h2, f2⟩ := bd_inv f1
  cases r0 with
  | bo i =>
    dsimp only at f2
    obtain ⟨r1, e3, h3, f3⟩ := bd_inv f2
    clear e f1 f2
    refine ho σ τ B1 H e1 pe e2 _ _ S1 hl1 h2 fun B2 H2 o s2 hl2 ho2 => ?_
    obtain ⟨S2, hi2⟩ := ho2
    refine hi σ τ B2 H2 e2 pe e3 _ _ S2 hl2 h3 fun B3 H3 k s3 hl3 hk => ?_
    obtain ⟨B4, s4, S4, hh⟩ := hk.held
    split at f3
    · rename_i d0 dk hm hc
      split at f3
      · rename_i d' hf
        cases f3
        obtain ⟨p, rfl, c, hw⟩ := mutAtD_at S4 hl3 hi2 hm
        refine hp B4 H3 p k v d0 dk d d' _ S4.same c (hh.rr S4 hl3 hc) (rd.mono ((s2.trans s3).trans s4)) hf fun o c' => ?_
        exact q σ B4 _ ((s0.trans s1).trans ((s2.trans s3).trans s4)) (by rw [putC_length]; exact hl3) (fun _ _ => rfl) (hw d' o c')
      · cases f3
    · cases f3
  | im d => cases f2
  | fr d => cases f2
def SeI (g : G0) (f : D → D → D → Option D) : Prop := ∃ t : TSet, (∀ c X, Cok g c X → PSet X t) ∧ PutS g.K t f
section
variable {g : G0} {c : Ct} {o i : Expr} {m mi : M Vl} {pos : Pos} {f : D → D → D → Option D}
theorem eg_sub (M : SeI g f) (h : EE g c o m) (h' : EE g c i mi) (ha : ∀ env v, assign (.Subscript o i pos) env v = (do
      let ov ← holding [v] (eval o env)
      let iv ← holding [v, ov] (eval i env)
      standAt pos
      holding [v, ov, iv] (setItem ov iv v)
      release [v, ov, iv] [])) : EG g c (.Subscript o i pos) [] (gS f m mi) := by
  obtain ⟨t1, h1, k1⟩ := h
  obtain ⟨t2, h2, k2⟩ := h'
  obtain ⟨t, ht, hp⟩ := M
  exact ⟨gSub t1 t2 t, fun X hX => pg_sub (h1 X hX) (h2 X hX) (ht c X hX) (ha _), fun A => sg_sub hp (k1 A) (k2 A)⟩
def setD : D → D → D → Option D
  | .lst ds, .int i, d => match ixN ds.length i with
    | some j => some (.lst (ds.set j d))
    | none => none
  | _, _, _ => none
theorem se_list : SeI g setD := ⟨rSetL, fun c X hX => set_list, fun B H p k v d0 dk d d' Q s c r rv e q => by
  unfold setD at e
  split at e
  · rename_i ds i
    split at e
    · rename_i j hj
      cases e
      obtain ⟨ys, hy, rr⟩ := cont_lst c
      exact ⟨p, ys, i, j, rfl, r.int, hy, by rw [← rr.length]; exact hj, q _ (.lst (rr.set rv j))⟩
    · cases e
  · cases e⟩
end
end PD
namespace PD
open PySem PySem.Spec PyProof.Rows L2

/-! ### a, b = x, y -/
def sPar (i j : Nat) (ms : M (List Vl)) : SM := fun e => match bd ms frzs e with
  | some ([d1, d2], e1) => match gN i (.im d1) e1 with
    | some (_, e2) => match gN j (.im d2) e2 with
      | some (_, e3) => some (.nx, e3)
      | none => none
    | none => none
  | _ => none
def sPar3 (i j l : Nat) (ms : M (List Vl)) : SM := fun e => match bd ms frzs e with
  | some ([d1, d2, d3], e1) => match gN i (.im d1) e1 with
    | some (_, e2) => match gN j (.im d2) e2 with
      | some (_, e3) => match gN l (.im d3) e3 with
        | some (_, e4) => some (.nx, e4)
        | none => none
      | none => none
    | none => none
  | _ => none
section
variable {K : PySem.W.Frag} {A : Anc}
theorem rps3 {K : PySem.W.Frag} {B : Hp} {d e f : D} {xs : List V} (r : Rps K B [d, e, f] xs) : ∃ x y z, xs = [x, y, z] ∧ Rp K B d x ∧ Rp K B e y ∧ Rp K B f z := by
  cases r with
  | cons r t =>
    obtain ⟨y, z, rfl, r2, r3⟩ := rps2 t
    exact ⟨_, y, z, rfl, r, r2, r3⟩
theorem ss_par {i j : Nat} {ta : TA} {ms : M (List Vl)} (ha : SAX K A ta ms) : SSX K A (tPar i j ta) (sPar i j ms) := fun σ B H env env' fl E S e q => by
  unfold sPar at e
  split at e
  · rename_i d1 d2 e1 h
    obtain ⟨rs, e0, h1, h2⟩ := bd_inv h
    refine ha σ [] B H env [] e0 rs _ S.nil_app S.len h1 fun B1 H1 vs s1 hl1 S1 hr => ?_
    obtain ⟨B2, s2, S2, hl2, rr⟩ := frzs_ok S1 hl1 hr h2
    obtain ⟨v, w, rfl, r1, r2⟩ := rps2 rr
    refine ⟨v, w, rfl, ?_⟩
    split at e
    · rename_i e2 h3
      split at e
      · rename_i e3 h4
        cases e
        refine sg_name (K := K) (A := A) σ [] B2 H1 e1 [] e2 (.im d1) v (fun σ' H' => E.nx (σ'.set j (some w)) H') ⟨S2, r1⟩ hl2 h3 fun σ1 B3 H3 s3 hl3 _ S3 => ?_
        exact sg_name (K := K) (A := A) σ1 [] B3 H3 e2 [] env' (.im d2) w E.nx ⟨S3, r2.mono s3⟩ hl3 h4 fun σ2 B4 H4 s4 hl4 _ S4 => q σ2 B4 H4 ((s1.trans s2).trans (s3.trans s4)) S4.app_nil
      · cases e
    · cases e
  · cases e
theorem ss_par3 {i j l : Nat} {ta : TA} {ms : M (List Vl)} (ha : SAX K A ta ms) : SSX K A (tPar3 i j l ta) (sPar3 i j l ms) := fun σ B H env env' fl E S e q => by
  unfold sPar3 at e
  split at e
  · rename_i d1 d2 d3 e1 h
    obtain ⟨rs, e0, h1, h2⟩ := bd_inv h
    refine ha σ [] B H env [] e0 rs _ S.nil_app S.len h1 fun B1 H1 vs s1 hl1 S1 hr => ?_
    obtain ⟨B2, s2, S2, hl2, rr⟩ := frzs_ok S1 hl1 hr h2
    obtain ⟨v, w, u, rfl, r1, r2, r3⟩ := rps3 rr
    refine ⟨v, w, u, rfl, ?_⟩
    split at e
    · rename_i e2 h3
      split at e
      · rename_i e3 h4
        split at e
        · rename_i e4 h5
          cases e
          refine sg_name (K := K) (A := A) σ [] B2 H1 e1 [] e2 (.im d1) v (fun σ' H' => E.nx ((σ'.set j (some w)).set l (some u)) H') ⟨S2, r1⟩ hl2 h3 fun σ1 B3 H3 s3 hl3 _ S3 => ?_
          refine sg_name (K := K) (A := A) σ1 [] B3 H3 e2 [] e3 (.im d2) w (fun σ' H' => E.nx (σ'.set l (some u)) H') ⟨S3, r2.mono s3⟩ hl3 h4 fun σ2 B4 H4 s4 hl4 _ S4 => ?_
          exact sg_name (K := K) (A := A) σ2 [] B4 H4 e3 [] env' (.im d3) u E.nx ⟨S4, r3.mono (s3.trans s4)⟩ hl4 h5 fun σ3 B5 H5 s5 hl5 _ S5 => q σ3 B5 H5 ((s1.trans s2).trans ((s3.trans s4).trans s5)) S5.app_nil
        · cases e
      · cases e
    · cases e
  · cases e
end
section
variable {g : G0} {c : Ct} {a b d : Expr} {ms : M (List Vl)} {pos px py pz pt : Pos} {kt k2 pt2}
theorem es_par {i j : Nat} {x y : Str} (hi : c.N[i]? = some x) (hj : c.N[j]? = some y) (hij : i ≠ j) (hx : c.sc.names.lookup x = some .local) (hy : c.sc.names.lookup y = some .local) (h : EA g c [a, b] ms)
    (hw : ∀ env : PySem.Env, env.scope = c.sc → swappedStores [.Tuple [.Name x px, .Name y py] kt pt] (.Tuple [a, b] k2 pt2) env = pure (some [x, y]))
    (hs : ∀ env : PySem.Env, swapsWithSole [.Tuple [.Name x px, .Name y py] kt pt] (.Tuple [a, b] k2 pt2) pos.line env = pure false) :
    ES g c (.Assign [.Tuple [.Name x px, .Name y py] kt pt] (.Tuple [a, b] k2 pt2) pos) (sPar i j ms) := by
  obtain ⟨t, h1, k1⟩ := h
  exact ⟨_, fun X hX => ps_par hX.calm hX.nd (by rw [hX.eN]; exact hi) (by rw [hX.eN]; exact hj) hij (by rw [hX.es]; exact hx) (by rw [hX.es]; exact hy) (h1 X hX) (hw X.env hX.es) (hs X.env), fun A => ss_par (k1 A)⟩
theorem es_par3 {i j l : Nat} {x y z : Str} (hi : c.N[i]? = some x) (hj : c.N[j]? = some y) (hk : c.N[l]? = some z) (hij : i ≠ j) (hil : i ≠ l) (hjl : j ≠ l) (hx : c.sc.names.lookup x = some .local) (hy : c.sc.names.lookup y = some .local) (hz : c.sc.names.lookup z = some .local) (h : EA g c [a, b, d] ms)
    (hw : ∀ env : PySem.Env, env.scope = c.sc → swappedStores [.Tuple [.Name x px, .Name y py, .Name z pz] kt pt] (.Tuple [a, b, d] k2 pt2) env = pure (some [x, y, z]))
    (hs : ∀ env : PySem.Env, swapsWithSole [.Tuple [.Name x px, .Name y py, .Name z pz] kt pt] (.Tuple [a, b, d] k2 pt2) pos.line env = pure false) :
    ES g c (.Assign [.Tuple [.Name x px, .Name y py, .Name z pz] kt pt] (.Tuple [a, b, d] k2 pt2) pos) (sPar3 i j l ms) := by
  obtain ⟨t, h1, k1⟩ := h
  exact ⟨_, fun X hX => ps_par3 hX.calm hX.nd (by rw [hX.eN]; exact hi) (by rw [hX.eN]; exact hj) (by rw [hX.eN]; exact hk) hij hil hjl (by rw [hX.es]; exact hx) (by rw [hX.es]; exact hy) (by rw [hX.es]; exact hz) (h1 X hX) (hw X.env hX.es) (hs X.env), fun A => ss_par3 (k1 A)⟩
end
end PD
namespace PD
open PySem PySem.Spec PyProof.Rows L2
/-- a module's constant -/
def GV (g : G0) (x : Str) (d : D) : Prop := ∃ (v : V) (u : Value), g.mg x = some u ∧ RelV v u ∧ ∀ B, Rp g.K B d v
theorem ee_gv {g : G0} {c : Ct} {x : Str} {d : D} {pos : Pos} (hg : GlC c x) (hm : GV g x d) (hdb : (x == ("__debug__" : Str)) = false) : EE g c (.Name x pos) (eC d) := by
  obtain ⟨v, u, h1, h2, h3⟩ := hm
  exact ee_glob hg h1 h2 h3 hdb
section
variable {g : G0} {c : Ct} {a b d : Expr} {ma mb mc : M Vl} {pos : Pos}
theorem et_cmp {op : CmpOp} {f : List D → Option Vl} (ho : OpI g (compareOp op) f) (h : EE g c a ma) (h' : EE g c b mb) (hm : behindInMarks op b = false) : ET g c (.Compare a [op] [b] pos) (mB (eP f (cA ma (cA mb cN)))) := by
  obtain ⟨r, o1, o2⟩ := ho
  obtain ⟨t, h1, h2⟩ := h
  obtain ⟨u, h3, h4⟩ := h'
  exact ⟨tTest (tOp r t u), fun X hX => pt_cmpR (o1 c X hX) (h1 X hX) (h3 X hX) hm, fun A => st_val (sx_op o2 (h2 A) (h4 A))⟩
theorem et_chain {op op' : CmpOp} {f h : List D → Option Vl} (ho : OpI g (compareOp op) f) (ho' : OpI g (compareOp op') h) (ha : EE g c a ma) (hb : EE g c b mb) (hc : EE g c d mc) (hm : lastMarks [op, op'] [b, d] = false) :
    ET g c (.Compare a [op, op'] [b, d] pos) (mB (eChain f h ma mb mc)) := by
  obtain ⟨r, o1, o2⟩ := ho
  obtain ⟨r', o3, o4⟩ := ho'
  obtain ⟨t, h1, h2⟩ := ha
  obtain ⟨u, h3, h4⟩ := hb
  obtain ⟨v, h5, h6⟩ := hc
  exact ⟨tTest (tChain r r' t u v), fun X hX => pt_chain (o1 c X hX) (o3 c X hX) (h1 X hX) (h3 X hX) (h5 X hX) hm, fun A => st_val (sx_chain o2 o4 (h2 A) (h4 A) (h6 A))⟩
end
end PD
namespace PD
open PySem PySem.Spec PyProof.Rows L2
/-! ### tools for the plain laws: loops and comprehensions by an invariant -/
theorem small_lit {n : Nat} (h : n ≤ 16777216) : small n = true := decide_eq_true h
theorem at_nat {α : Type} {l : List α} {j : Nat} {a : α} (h : l[j]? = some a) : L2.atI l (j : Int) = some a := atI_nat h
theorem atI_in {α : Type} {l : List α} {i : Int} (h0 : 0 ≤ i) (h1 : i < l.length) : ∃ a ∈ l, L2.atI l i = some a := by
  obtain ⟨j, rfl⟩ := Int.eq_ofNat_of_zero_le h0
  have hj : j < l.length := by omega
  exact ⟨l[j], List.getElem_mem hj, at_nat (List.getElem?_eq_getElem hj)⟩
theorem compL_inv {vs : List Nat} {g : Vl → M Unit} {tt : M Bool} {te : M Vl} {P : Nat → Env → Prop} {R : D → D → Prop} : ∀ {ds : List D} {k : Nat} {e : Env},
    (∀ k d e, d ∈ ds → P k e → ∃ e1 e2 r e3 y e4, g (.im d) e = some ((), e1) ∧ tt e1 = some (true, e2) ∧ te e2 = some (r, e3) ∧ frz r.hold e3 = some (y, e4) ∧ R d y ∧ P (k + 1) (wipeE e4 vs)) →
    P k e → ∃ ys e', compL vs g tt te ds e = some (ys, e') ∧ P (k + ds.length) e' ∧ Paired R ds ys
  | [], k, e, h, p => ⟨[], e, rfl, p, .nil⟩
  | d :: ds, k, e, h, p => by
    obtain ⟨e1, e2, r, e3, y, e4, h1, h2, h3, h4, h5, h6⟩ := h k d e (List.mem_cons_self ..) p
    obtain ⟨ys, e', g1, g2, g3⟩ := compL_inv (ds := ds) (fun k d e hd => h k d e (List.mem_cons_of_mem _ hd)) h6
    refine ⟨y :: ys, e', ?_, ?_, .cons h5 g3⟩
    · unfold compL
      simp only [h1, h2, h3, h4, g1]
    · rw [List.length_cons, show k + (ds.length + 1) = k + 1 + ds.length by omega]
      exact g2
/-- a comprehension that leaves the slots as they are -/
theorem compL_map {vs : List Nat} {g : Vl → M Unit} {tt : M Bool} {te : M Vl} {e0 : Env} (f : D → D) : ∀ {ds : List D},
    (∀ d, d ∈ ds → ∃ e1 e2 r e3 e4, g (.im d) e0 = some ((), e1) ∧ tt e1 = some (true, e2) ∧ te e2 = some (r, e3) ∧ frz r.hold e3 = some (f d, e4) ∧ wipeE e4 vs = e0) →
    compL vs g tt te ds e0 = some (ds.map f, e0)
  | [], h => rfl
  | d :: ds, h => by
    obtain ⟨e1, e2, r, e3, e4, h1, h2, h3, h4, h6⟩ := h d (List.mem_cons_self ..)
    have ih := compL_map f (ds := ds) fun d hd => h d (List.mem_cons_of_mem _ hd)
    unfold compL
    simp only [h1, h2, h3, h4, h6, ih, List.map_cons]
theorem forL_inv {g : Vl → M Unit} {b : SM} {P : Nat → Env → Prop} : ∀ {ds : List D} {k : Nat} {e : Env},
    (∀ i d e, ds[i]? = some d → P (k + i) e → ∃ e1 e2, g (.im d) e = some ((), e1) ∧ (b e1 = some (.nx, e2) ∨ b e1 = some (.ct, e2)) ∧ P (k + i + 1) e2) → P k e → ∃ e', forL g b ds e = some (.nx, e') ∧ P (k + ds.length) e'
  | [], k, e, h, p => ⟨e, rfl, p⟩
  | d :: ds, k, e, h, p => by
    obtain ⟨e1, e2, h1, h2, h3⟩ := h 0 d e rfl p
    obtain ⟨e', g1, g2⟩ := forL_inv (ds := ds) (k := k + 1) (fun i d e hd hp => by
      have := h (i + 1) d e hd (by rw [show k + (i + 1) = k + 1 + i by omega]; exact hp)
      rwa [show k + (i + 1) + 1 = k + 1 + i + 1 by omega] at this) h3
    refine ⟨e', ?_, ?_⟩
    · unfold forL
      rcases h2 with h2 | h2 <;> simp only [h1, h2, g1]
    · rw [List.length_cons, show k + (ds.length + 1) = k + 1 + ds.length by omega]
      exact g2
theorem eComp_of {vs : List Nat} {mi : M (List D)} {g : Vl → M Unit} {tt : M Bool} {te : M Vl} {e e1 e2 : Env} {ds ys : List D} (h1 : mi e = some (ds, e1)) (h2 : (vs.all fun v => calmS e1[v]?) = true) (h3 : compL vs g tt te ds (wipeE e1 vs) = some (ys, e2)) (h4 : small ys.length = true) :
    eComp vs mi g tt te e = some (.fr (.lst ys), unwipe e1 e2 vs) := by
  unfold eComp
  simp only [h1, h2, h3, h4, if_true]
theorem paired_len {α β : Type} {R : α → β → Prop} : ∀ {xs : List α} {ys : List β}, Paired R xs ys → xs.length = ys.length
  | _, _, .nil => rfl
  | _, _, .cons _ t => by rw [List.length_cons, List.length_cons, paired_len t]
theorem paired_mem {α β : Type} {R : α → β → Prop} : ∀ {xs : List α} {ys : List β} {y : β}, Paired R xs ys → y ∈ ys → ∃ x ∈ xs, R x y
  | _, _, _, .cons h t, m => by
    rcases List.mem_cons.mp m with rfl | m
    · exact ⟨_, List.mem_cons_self .., h⟩
    · obtain ⟨x, h1, h2⟩ := paired_mem t m
      exact ⟨x, List.mem_cons_of_mem _ h1, h2⟩

/-! ### texts of small signs -/
def As (n : Nat) (x : Str) : Prop := x.length ≤ n ∧ ∀ c ∈ x.cps.toList, c < 128
theorem As.mono {n m : Nat} {x : Str} (h : As n x) (hn : n ≤ m) : As m x := ⟨Nat.le_trans h.1 hn, h.2⟩
theorem As.app {n m : Nat} {x y : Str} (h : As n x) (h' : As m y) : As (n + m) (x ++ y) := by
  refine ⟨by rw [len_app]; have := h.1; have := h'.1; omega, fun c hc => ?_⟩
  have : c ∈ (x.cps ++ y.cps).toList := hc
  rw [Array.toList_append, List.mem_append] at this
  exact this.elim (h.2 c) (h'.2 c)
theorem As.cut {n : Nat} {x : Str} (h : As n x) (lo hi : Option Int) : As n (cutS x lo hi) := by
  refine ⟨?_, fun c hc => ?_⟩
  · have h1 : x.cps.size ≤ n := h.1
    show (((x.cps.toList.drop (HT.sIx x.length 0 lo)).take (HT.sIx x.length x.length hi - HT.sIx x.length 0 lo)).toArray).size ≤ n
    simp
    omega
  · have hc : c ∈ (x.cps.toList.drop (HT.sIx x.length 0 lo)).take (HT.sIx x.length x.length hi - HT.sIx x.length 0 lo) := by simpa [cutS] using hc
    exact h.2 c (List.mem_of_mem_drop (List.mem_of_mem_take hc))
theorem As.ok {n : Nat} {x : Str} (h : As n x) : PyData.strOk x = true := ok_mem.mpr fun c hc => Nat.lt_trans (h.2 c hc) (by decide)
theorem As.one {c n : Nat} (h : c < 128) (hn : 1 ≤ n) : As n ⟨#[c]⟩ := ⟨hn, fun d hd => by
  have : d = c := by simpa using hd
  omega⟩
theorem upper_ascii : ∀ c, c < 128 → Unicode.upperOf c = [if 97 ≤ c ∧ c ≤ 122 then c - 32 else c] := by
  have : (List.range 128).all (fun c => Unicode.upperOf c == [if 97 ≤ c ∧ c ≤ 122 then c - 32 else c]) = true := by decide +kernel
  intro c hc
  exact eq_of_beq (List.all_eq_true.mp this c (List.mem_range.mpr hc))
theorem mapIdx_const {α β : Type} (f : α → β) (l : List α) : l.mapIdx (fun _ a => f a) = l.map f := by
  apply List.ext_getElem?
  intro i
  simp
theorem As.upper {n : Nat} {x : Str} (h : As n x) : As n (Txt.upper x) := by
  have e : (Txt.upper x).cps.toList = x.cps.toList.map fun c => if 97 ≤ c ∧ c ≤ 122 then c - 32 else c := by
    have e1 : (Txt.upper x).cps.toList = ((x.cps.toList.mapIdx fun _ c => (Unicode.upperOf c).toArray).map Array.toList).flatten := by
      show ((x.cps.mapIdx fun i c => (Unicode.upperOf c).toArray).flatten).toList = _
      rw [Array.toList_flatten, Array.toList_mapIdx]
    rw [e1, mapIdx_const (fun c => (Unicode.upperOf c).toArray), List.map_map]
    have : ∀ l : List Nat, (∀ c ∈ l, c < 128) → (l.map (Array.toList ∘ fun c => (Unicode.upperOf c).toArray)).flatten = l.map fun c => if 97 ≤ c ∧ c ≤ 122 then c - 32 else c := by
      intro l
      induction l with
      | nil => intro _; rfl
      | cons c r ih =>
        intro hl
        rw [List.map_cons, List.flatten_cons, ih fun d hd => hl d (List.mem_cons_of_mem _ hd), List.map_cons]
        show Unicode.upperOf c ++ _ = _
        rw [upper_ascii c (hl c (List.mem_cons_self ..))]
        rfl
    exact this _ h.2
  refine ⟨?_, fun c hc => ?_⟩
  · show (Txt.upper x).cps.size ≤ n
    rw [← Array.length_toList, e, List.length_map, Array.length_toList]
    exact h.1
  · rw [e] at hc
    obtain ⟨d, hd, rfl⟩ := List.mem_map.mp hc
    have := h.2 d hd
    split <;> omega
theorem As.times {n : Nat} {x : Str} (h : As n x) (k : Nat) : As (k * n) (timesS x k) := by
  refine ⟨?_, fun c hc => ?_⟩
  · show ((List.replicate k x.cps.toList).flatten).toArray.size ≤ _
    have h1 : x.cps.size ≤ n := h.1
    simp
    exact Nat.mul_le_mul_left k h1
  · have hc : c ∈ (List.replicate k x.cps.toList).flatten := by simpa [timesS] using hc
    obtain ⟨l, hl, hc⟩ := List.mem_flatten.mp hc
    rw [(List.mem_replicate.mp hl).2] at hc
    exact h.2 c hc
/-- single signs joined -/
theorem join_signs : ∀ cs : List Nat, Str.join "" (cs.map fun c => (⟨#[c]⟩ : Str)) = ⟨cs.toArray⟩
  | [] => rfl
  | [c] => rfl
  | c :: d :: r => by
    have ih := join_signs (d :: r)
    show (⟨#[c]⟩ : Str) ++ "" ++ Str.join "" ((d :: r).map fun c => (⟨#[c]⟩ : Str)) = _
    rw [ih]
    show (⟨(#[c] ++ (Str.ofString "").cps) ++ (d :: r).toArray⟩ : Str) = _
    have : (Str.ofString "").cps = #[] := by decide +kernel
    rw [this]
    simp
theorem txt_join_signs (cs : List Nat) : Txt.join "" (cs.map fun c => (⟨#[c]⟩ : Str)) = ⟨cs.toArray⟩ := (StrLaws.glued_eq_join _ _).trans (join_signs cs)
theorem contains_sign (x : Str) (c : Nat) : Txt.contains x ⟨#[c]⟩ = decide (c ∈ x.cps.toList) := by
  unfold Txt.contains
  rw [empty_one, Bool.not_not]
/-- the signs of L, counted one by one in a text: how many of its signs stand in L -/
theorem count_of (xs : List Nat) : ∀ L : List Nat, L.Nodup → (L.map fun c => PyProof.Rows.cnt c xs).sum = ((xs.countP fun c => decide (c ∈ L) : Nat) : Int)
  | [], _ => by simp
  | l :: L, h => by
    have h := List.nodup_cons.mp h
    have ih := count_of xs L h.2
    rw [List.map_cons, List.sum_cons, ih]
    clear ih
    induction xs with
    | nil => simp [PyProof.Rows.cnt_nil]
    | cons x r ih =>
      rw [PyProof.Rows.cnt_cons, List.countP_cons, List.countP_cons]
      by_cases hx : x = l
      · subst hx
        simp only [if_pos rfl, h.1, decide_false, List.mem_cons, true_or, decide_true]
        simp at ih ⊢
        omega
      · simp only [if_neg hx, List.mem_cons, hx, false_or]
        simp at ih ⊢
        split <;> omega
end PD
namespace PD
open PySem PySem.Spec PyProof.Rows L2

/-! ### sorted, any data -/
def sortOk (ds : List D) : Bool := arePy ds && ((pys ds).all fun d => (pys ds).all fun d' => PySem.W.alike d d') && depsB 50 ds && small ds.length &&
  (ds.all (fun d => match d with | .tup (_ :: _) => true | _ => false) || ds.all (fun d => match d with | .tup _ => false | .tp _ => false | .non => false | _ => true))
def sortL (ds : List D) : List D := ds.mergeSort fun a b => PySem.W.dataLe false D.py a b
def sortedD : List D → Option Vl
  | [.lst ds] => if sortOk ds = true then some (.fr (.lst (sortL ds))) else none
  | _ => none
def rSortedD (K : PySem.W.Frag) : List V → Hp → VK → Prop := fun xs H Q => ∃ (a : Addr) (bs : List (V × PyData)), xs = [.ref a] ∧ SqL K H a (bs.map (·.1)) ∧ (∀ b ∈ bs, Dp K H b.1 b.2) ∧ PySem.W.AllAlike (bs.map (·.2)) ∧ PySem.W.Sortable (bs.map (·.2)) ∧ bs.length ≤ sizeLine ∧ (∀ b ∈ bs, b.2.depth ≤ 50) ∧
  ∀ p, H p = none → Q (.ref p) (upd H p (.lst ((bs.mergeSort (PySem.W.dataLe false (·.2))).map (·.1))))
section
variable {X : Cx}
theorem each_of {pins : List (Addr × Obj)} {σ : L2.St} {H : Hp} {s : Shared} (I : Inv X pins σ H s) : ∀ {bs : List (V × PyData)} {us : List Value}, Vals (bs.map (·.1)) us → (∀ b ∈ bs, Dp X.K H b.1 b.2) →
    PySem.W.EachIs (fun (v : Value) (b : V × PyData) => RelV b.1 v) us bs ∧ PySem.W.EachIs (fun (v : Value) (b : V × PyData) => ∃ as, Reads s.heap v b.2 as) us bs
  | [], _, .nil, _ => ⟨.nil, .nil⟩
  | b :: bs, _, .cons r t, h => by
    obtain ⟨h1, h2⟩ := each_of I (bs := bs) t fun b hb => h b (List.mem_cons_of_mem _ hb)
    exact ⟨.cons r h1, .cons (Dp.reads I _ _ _ (h b (List.mem_cons_self ..)) r) h2⟩
theorem vals_of_each : ∀ {us : List Value} {bs : List (V × PyData)}, PySem.W.EachIs (fun (v : Value) (b : V × PyData) => RelV b.1 v) us bs → Vals (bs.map (·.1)) us
  | _, _, .nil => .nil
  | _, _, .cons r t => .cons r (vals_of_each t)
theorem cr_sortedD {k : Nat} (hr : Room k X.A) : CallR X (.builtin "sorted") (rSortedD X.K) := by
  intro pins s σ H xs us Q I r h
  obtain ⟨a, bs, rfl, hs, hd, al, so, hz, dp, q⟩ := h
  obtain ⟨its, rv, hl, _⟩ := I.list hs
  rw [Vals.ref1 r]
  obtain ⟨h1, h2⟩ := each_of I rv hd
  refine PySem.W.sorted_data (enc := fun b : V × PyData => b.2) hl.isList h1 h2 al so hz (fun b hb => ?_) fun out hlen ho => ?_
  · have := dp b hb
    have := hr.un
    omega
  · obtain ⟨ep, he'⟩ := PyProof.Rows.sortedAll_at s.heap its out.toArray
    have hv := vals_of_each ho
    have hlen2 : ((bs.mergeSort (PySem.W.dataLe false (·.2))).map (·.1)).length ≤ sizeLine := by
      rw [List.length_map, (List.mergeSort_perm _ _).length_eq]
      exact hz
    exact ⟨.ref _, upd H (s.heap.objs.size + 1) (.lst ((bs.mergeSort (PySem.W.dataLe false (·.2))).map (·.1))), I.laid (t' := s.toks) (fun _ _ => PyProof.Rows.sortedAll_old) (Nat.le_succ _) ⟨hlen2, out, ep, hv, he'⟩, rfl, q _ (I.hok.fresh (Nat.le_succ _))⟩
end
theorem rps_zip {K : PySem.W.Frag} {B H : Hp} (s : Same B H) : ∀ {ds : List D} {vs : List V}, Rps K B ds vs → arePy ds = true → ∃ zs : List (V × D), zs.map (·.1) = vs ∧ zs.map (·.2) = ds ∧ ∀ z ∈ zs, Rp K B z.2 z.1 ∧ Dp K H z.1 z.2.py
  | _, _, .nil, _ => ⟨[], rfl, rfl, fun _ h => by simp at h⟩
  | d :: ds, v :: vs, .cons r t, n => by
    have n : d.isPy = true ∧ arePy ds = true := by simpa [arePy] using n
    obtain ⟨zs, h1, h2, h3⟩ := rps_zip s t n.2
    refine ⟨(v, d) :: zs, by rw [List.map_cons, h1], by rw [List.map_cons, h2], fun z hz => ?_⟩
    rcases List.mem_cons.mp hz with rfl | hz
    · exact ⟨r, r.dp s n.1⟩
    · exact h3 z hz
theorem rps_of_zip {K : PySem.W.Frag} {B : Hp} : ∀ {zs : List (V × D)}, (∀ z ∈ zs, Rp K B z.2 z.1) → Rps K B (zs.map (·.2)) (zs.map (·.1))
  | [], _ => .nil
  | z :: zs, h => .cons (h z (List.mem_cons_self ..)) (rps_of_zip fun y hy => h y (List.mem_cons_of_mem _ hy))
theorem depthAll_mem : ∀ {ds : List PyData} {d : PyData}, d ∈ ds → d.depth ≤ PyData.depthAll ds
  | x :: xs, d, h => by
    simp only [PyData.depthAll]
    rcases List.mem_cons.mp h with rfl | h
    · omega
    · have := depthAll_mem h
      omega
theorem ca_sorted {g : G0} : CaI g (.builtin "sorted") sortedD := by
  refine ⟨rSortedD g.K, fun c X hX => by rw [← hX.eK]; exact cr_sortedD hX.room, fun A B H vs env xs ds res Q S rr e q => ?_⟩
  unfold sortedD at e
  split at e
  · rename_i ds0
    split at e
    · rename_i ok
      cases e
      unfold sortOk at ok
      simp only [Bool.and_eq_true] at ok
      obtain ⟨⟨⟨⟨o1, o2⟩, o3⟩, o4⟩, o5⟩ := ok
      obtain ⟨x, rfl, r1⟩ := pr1 rr
      obtain ⟨a, us, rfl, ha, ra⟩ := r1.lst S.same
      obtain ⟨zs, z1, z2, z3⟩ := rps_zip S.same ra o1
      subst z1 z2
      have ep : (zs.map fun z => (z.1, z.2.py)).map (·.2) = pys (zs.map (·.2)) := by
        rw [pys_map, List.map_map, List.map_map]
        rfl
      refine ⟨a, zs.map fun z => (z.1, z.2.py), rfl, ?_, fun b hb => ?_, ?_, ?_, ?_, fun b hb => ?_, fun p hp => ?_⟩
      · rw [List.map_map]
        exact .of ha
      · obtain ⟨z, hz, rfl⟩ := List.mem_map.mp hb
        exact (z3 z hz).2
      · rw [ep]
        intro d hd d' hd'
        exact List.all_eq_true.mp (List.all_eq_true.mp o2 d hd) d' hd'
      · rw [ep, pys_map]
        rcases Bool.or_eq_true_iff.mp o5 with o | o
        · refine .inl fun d hd => ?_
          obtain ⟨e, he, rfl⟩ := List.mem_map.mp hd
          have := List.all_eq_true.mp o e he
          split at this
          · rename_i x r
            exact ⟨x.py, pys r, by simp [D.py, pys]⟩
          · cases this
        · refine .inr fun d hd => ?_
          obtain ⟨e, he, rfl⟩ := List.mem_map.mp hd
          have := List.all_eq_true.mp o e he
          have hpy := o1
          rw [arePy_all] at hpy
          have hpe := List.all_eq_true.mp hpy e he
          cases e <;> simp [D.py, D.isPy] at this hpe ⊢
      · rw [List.length_map]
        have := of_decide_eq_true o4
        rw [List.length_map] at this
        exact this
      · obtain ⟨z, hz, rfl⟩ := List.mem_map.mp hb
        have h1 := of_decide_eq_true o3
        have h2 : z.2.py ∈ pys (zs.map (·.2)) := by
          rw [pys_map]
          exact List.mem_map.mpr ⟨z.2, List.mem_map.mpr ⟨z, hz, rfl⟩, rfl⟩
        have h3 := depthAll_mem h2
        show z.2.py.depth ≤ 50
        omega
      · have e1 : ((zs.map fun z => (z.1, z.2.py)).mergeSort (PySem.W.dataLe false (·.2))) = (zs.mergeSort (PySem.W.dataLe false fun z => z.2.py)).map fun z => (z.1, z.2.py) :=
          (List.map_mergeSort (f := fun z : V × D => (z.1, z.2.py)) (fun a _ b _ => rfl)).symm
        have e2 : sortL (zs.map (·.2)) = (zs.mergeSort (PySem.W.dataLe false fun z => z.2.py)).map (·.2) :=
          (List.map_mergeSort (f := fun z : V × D => z.2) (fun a _ b _ => rfl)).symm
        rw [e1, List.map_map]
        have hr : Rps g.K B (sortL (zs.map (·.2))) ((zs.mergeSort (PySem.W.dataLe false fun z => z.2.py)).map (·.1)) := by
          rw [e2]
          exact rps_of_zip fun z hz => (z3 z ((List.mergeSort_perm _ _).mem_iff.mp hz)).1
        exact q B _ _ (Same.refl _) (.lst S hp hr)
    · cases e
  · cases e
end PD
namespace PD
open PySem PySem.Spec PyProof.Rows L2

/-! ### zip, enumerate -/
def zipD (xs ys : List D) : List D := List.zipWith (fun x y => D.tup [x, y]) xs ys
def mZip (ms : M (List Vl)) : M (List D) := bd ms fun rs => bd (frzs rs) fun ds => match ds with
  | [.lst a, .lst b] => rt (zipD a b)
  | [.tup a, .tup b] => rt (zipD a b)
  | [.tp a, .tp b] => rt (zipD a b)
  | [.tp a, .tup b] => rt (zipD a b)
  | [.tup a, .tp b] => rt (zipD a b)
  | _ => fun _ => none
def enumD (k : Nat) : List D → List D
  | [] => []
  | d :: ds => .tup [.int (k : Nat), d] :: enumD (k + 1) ds
def mEnum (m : M Vl) : M (List D) := bd m fun r => bd (frz r.hold) fun d => match d with
  | .lst ds => rt (enumD 0 ds)
  | _ => fun _ => none
theorem zipD_get {xs ys : List D} {i : Nat} : (zipD xs ys)[i]? = match xs[i]?, ys[i]? with
    | some x, some y => some (.tup [x, y])
    | _, _ => none := by
  unfold zipD
  rw [List.getElem?_zipWith]
  cases xs[i]? <;> cases ys[i]? <;> rfl
theorem enumD_get : ∀ {ds : List D} {k i : Nat}, (enumD k ds)[i]? = (ds[i]?).map fun d => .tup [.int ((k + i : Nat) : Int), d]
  | [], k, i => by simp [enumD]
  | d :: ds, k, 0 => by simp [enumD]
  | d :: ds, k, i + 1 => by
    show (enumD (k + 1) ds)[i]? = _
    rw [enumD_get, List.getElem?_cons_succ, show k + 1 + i = k + (i + 1) by omega]
theorem enumD_len : ∀ {ds : List D} {k : Nat}, (enumD k ds).length = ds.length
  | [], _ => rfl
  | d :: ds, k => by
    show (enumD (k + 1) ds).length + 1 = _
    rw [enumD_len, List.length_cons]
section
variable {K : PySem.W.Frag} {A : Anc}
theorem wd_zipL {B0 : Hp} {a b : Addr} {xs ys : List V} {ds es : List D} (h : SqL K B0 a xs) (h' : SqL K B0 b ys) (r : Rps K B0 ds xs) (r' : Rps K B0 es ys) : WD K (Itz K a b) B0 (zipD ds es) := by
  have hl := r.length
  have hl' := r'.length
  have hz : (zipD ds es).length = min xs.length ys.length := by
    unfold zipD
    rw [List.length_zipWith, hl, hl']
  refine ⟨fun i H B hi s1 s2 => ?_, fun H B s1 s2 => ?_, fun i H B x H' hi s1 s2 y => ?_⟩
  · rw [hz] at hi
    have h1 : i < xs.length := by omega
    have h2 : i < ys.length := by omega
    exact ⟨xs, ys, xs[i], ys[i], sameL s2 (sameL s1 h), sameL s2 (sameL s1 h'), List.getElem?_eq_getElem h1, List.getElem?_eq_getElem h2⟩
  · exact ⟨xs, ys, sameL s2 (sameL s1 h), sameL s2 (sameL s1 h'), by rw [hz]; omega⟩
  · obtain ⟨T, u, v, rfl, nT, rfl, f1, f2⟩ := y
    have e1 := f1 _ (sameL s2 (sameL s1 h))
    have e2 := f2 _ (sameL s2 (sameL s1 h'))
    obtain ⟨d, g1, r1⟩ := r.getV e1
    obtain ⟨e, g2, r2⟩ := r'.getV e2
    refine ⟨.tup [d, e], by rw [zipD_get, g1, g2], .inr ⟨T, [u, v], [d, e], rfl, nT, rfl, rfl, .cons (r1.mono s1) (.cons (r2.mono s1) .nil)⟩⟩
theorem wd_zipT {B0 : Hp} {a b : Addr} {xs ys : List V} {ds es : List D} (h : SqT K B0 a xs) (h' : SqT K B0 b ys) (r : Rps K B0 ds xs) (r' : Rps K B0 es ys) : WD K (RZ.ItzT K a b) B0 (zipD ds es) := by
  have hl := r.length
  have hl' := r'.length
  have hz : (zipD ds es).length = min xs.length ys.length := by
    unfold zipD
    rw [List.length_zipWith, hl, hl']
  refine ⟨fun i H B hi s1 s2 => ?_, fun H B s1 s2 => ?_, fun i H B x H' hi s1 s2 y => ?_⟩
  · rw [hz] at hi
    have h1 : i < xs.length := by omega
    have h2 : i < ys.length := by omega
    exact ⟨xs, ys, xs[i], ys[i], sameT s2 (sameT s1 h), sameT s2 (sameT s1 h'), List.getElem?_eq_getElem h1, List.getElem?_eq_getElem h2⟩
  · exact ⟨xs, ys, sameT s2 (sameT s1 h), sameT s2 (sameT s1 h'), by rw [hz]; omega⟩
  · obtain ⟨T, u, v, rfl, nT, rfl, f1, f2⟩ := y
    have e1 := f1 _ (sameT s2 (sameT s1 h))
    have e2 := f2 _ (sameT s2 (sameT s1 h'))
    obtain ⟨d, g1, r1⟩ := r.getV e1
    obtain ⟨e, g2, r2⟩ := r'.getV e2
    refine ⟨.tup [d, e], by rw [zipD_get, g1, g2], .inr ⟨T, [u, v], [d, e], rfl, nT, rfl, rfl, .cons (r1.mono s1) (.cons (r2.mono s1) .nil)⟩⟩
theorem wd_enum {B0 : Hp} {a : Addr} {xs : List V} {ds : List D} (h : SqL K B0 a xs) (r : Rps K B0 ds xs) : WD K (Ite K a) B0 (enumD 0 ds) := by
  have hl := r.length
  refine ⟨fun i H B hi s1 s2 => ?_, fun H B s1 s2 => ?_, fun i H B x H' hi s1 s2 y => ?_⟩
  · rw [enumD_len, hl] at hi
    exact ⟨xs, xs[i], sameL s2 (sameL s1 h), List.getElem?_eq_getElem hi⟩
  · exact ⟨xs, sameL s2 (sameL s1 h), by rw [enumD_len, hl]; exact Nat.le_refl _⟩
  · obtain ⟨T, u, rfl, nT, rfl, f1⟩ := y
    have e1 := f1 _ (sameL s2 (sameL s1 h))
    obtain ⟨d, g1, r1⟩ := r.getV e1
    refine ⟨.tup [.int (i : Nat), d], by rw [enumD_get, g1, Nat.zero_add]; rfl, .inr ⟨T, _, _, rfl, nT, rfl, rfl, .cons (.int _) (.cons (r1.mono s1) .nil)⟩⟩
theorem si_zip {t : TA} {ms : M (List Vl)} (h : SAX K A t ms) : SIX K A (RZ.iZipA K t) (mZip ms) := fun σ τ B H env pe env' ds R S hl e q => by
  obtain ⟨rs, e1, h1, f1⟩ := bd_inv e
  obtain ⟨es, e2, h2, f2⟩ := bd_inv f1
  refine h σ τ B H env pe e1 rs _ S hl h1 fun B1 H1 vs s1 hl1 S1 hr => ?_
  obtain ⟨B2, s2, S2, hl2, rr⟩ := frzs_ok S1 hl1 hr h2
  split at f2
  · rename_i a b
    cases f2
    obtain ⟨x, y, rfl, r1, r2⟩ := rps2 rr
    cases r1 with
    | lst p1 r1 =>
      cases r2 with
      | lst p2 r2 => exact ⟨_, _, _, _, rfl, .inl ⟨.of (S2.same _ _ p1), .of (S2.same _ _ p2), q B2 H1 _ (s1.trans s2) hl2 S2 (wd_zipL (.of p1) (.of p2) r1 r2)⟩⟩
  · rename_i a b
    cases f2
    obtain ⟨x, y, rfl, r1, r2⟩ := rps2 rr
    cases r1 with
    | tup p1 r1 =>
      cases r2 with
      | tup p2 r2 => exact ⟨_, _, _, _, rfl, .inr ⟨(p1.same S2.same).sq, (p2.same S2.same).sq, q B2 H1 _ (s1.trans s2) hl2 S2 (wd_zipT p1.sq p2.sq r1 r2)⟩⟩
  · rename_i a b
    cases f2
    obtain ⟨x, y, rfl, r1, r2⟩ := rps2 rr
    cases r1 with
    | tp p1 _ r1 =>
      cases r2 with
      | tp p2 _ r2 => exact ⟨_, _, _, _, rfl, .inr ⟨(.inl (.inr ⟨_, S2.same _ _ p1⟩)), (.inl (.inr ⟨_, S2.same _ _ p2⟩)), q B2 H1 _ (s1.trans s2) hl2 S2 (wd_zipT (.inl (.inr ⟨_, p1⟩)) (.inl (.inr ⟨_, p2⟩)) r1 r2)⟩⟩
  · rename_i a b
    cases f2
    obtain ⟨x, y, rfl, r1, r2⟩ := rps2 rr
    cases r1 with
    | tp p1 _ r1 =>
      cases r2 with
      | tup p2 r2 => exact ⟨_, _, _, _, rfl, .inr ⟨(.inl (.inr ⟨_, S2.same _ _ p1⟩)), (p2.same S2.same).sq, q B2 H1 _ (s1.trans s2) hl2 S2 (wd_zipT (.inl (.inr ⟨_, p1⟩)) p2.sq r1 r2)⟩⟩
  · rename_i a b
    cases f2
    obtain ⟨x, y, rfl, r1, r2⟩ := rps2 rr
    cases r1 with
    | tup p1 r1 =>
      cases r2 with
      | tp p2 _ r2 => exact ⟨_, _, _, _, rfl, .inr ⟨(p1.same S2.same).sq, (.inl (.inr ⟨_, S2.same _ _ p2⟩)), q B2 H1 _ (s1.trans s2) hl2 S2 (wd_zipT p1.sq (.inl (.inr ⟨_, p2⟩)) r1 r2)⟩⟩
  · cases f2
theorem si_enum {t : TE} {m : M Vl} (h : SEX K A t m) : SIX K A (iEnum K (tCons t tNil)) (mEnum m) := fun σ τ B H env pe env' ds R S hl e q => by
  obtain ⟨r, e1, h1, f1⟩ := bd_inv e
  obtain ⟨d, e2, h2, f2⟩ := bd_inv f1
  refine h σ τ B H env pe e1 r _ S hl h1 fun B1 H1 v s1 hl1 hv => ?_
  obtain ⟨B2, s2, S2, hh⟩ := hv.held
  obtain ⟨B3, s3, S3, hl3, rr⟩ := frz_ok S2 hl1 hh h2
  split at f2
  · cases f2
    cases rr with
    | lst p1 r1 => exact ⟨_, _, rfl, .of (S3.same _ _ p1), q B3 H1 _ ((s1.trans s2).trans s3) hl3 S3 (wd_enum (.of p1) r1)⟩
  · cases f2
end
section
variable {g : G0} {c : Ct} {a b : Expr} {m n : M Vl} {ms : M (List Vl)} {p pos tpos : Pos} {elts : List Expr} {kk : Nat}
theorem ei_zip (hg : GlC c "zip") (hm : g.mg "zip" = none) (h : EA g c [a, b] ms) (pl : Pl a) (pl2 : Pl b) : EI g c (.Tuple elts kk tpos) (.Call (.Name "zip" p) [a, b] [] pos) (mZip ms) := by
  obtain ⟨t, h1, h2⟩ := h
  exact ⟨RZ.iZipA g.K t, fun X hX => by
    rw [← hX.eK]
    exact RZ.pi_zipA (gl_of hX hg) (by rw [hX.em]; exact hm) (h1 X hX) (pl [b] X.env) (by rw [pl2 [] X.env]; rfl), fun A => si_zip (h2 A)⟩
theorem ei_enum (hg : GlC c "enumerate") (hm : g.mg "enumerate" = none) (h : EE g c a m) (pl : Pl a) : EI g c (.Tuple elts kk tpos) (.Call (.Name "enumerate" p) [a] [] pos) (mEnum m) := by
  obtain ⟨t, h1, h2⟩ := h
  exact ⟨iEnum g.K (tCons t tNil), fun X hX => by
    rw [← hX.eK]
    exact pi_enum (gl_of hX hg) (by rw [hX.em]; exact hm) (pa_cons (h1 X hX) pa_nil (pl [] X.env)) (by rw [pl [] X.env]; rfl), fun A => si_enum (h2 A)⟩
end

/-! ### a, b = x, y with fresh things: each slot holds its own -/
def hb : Vl → M Vl
  | .bo i => bd (frz (.bo i)) fun d => rt (.im d)
  | r => rt r
def sPF (i j : Nat) (m n : M Vl) : SM := fun e => match bd m hb e with
  | some (r1, e1) => match bd n hb e1 with
    | some (r2, e2) => match gN j r2 e2 with
      | some (_, e3) => match gN i r1 e3 with
        | some (_, e4) => some (.nx, e4)
        | none => none
      | none => none
    | none => none
  | none => none
def sPF3 (i j l : Nat) (m n o : M Vl) : SM := fun e => match bd m hb e with
  | some (r1, e1) => match bd n hb e1 with
    | some (r2, e2) => match bd o hb e2 with
      | some (r3, e3) => match gN l r3 e3 with
        | some (_, e4) => match gN j r2 e4 with
          | some (_, e5) => match gN i r1 e5 with
            | some (_, e6) => some (.nx, e6)
            | none => none
          | none => none
        | none => none
      | none => none
    | none => none
  | none => none
section
variable {K : PySem.W.Frag} {A : Anc}
/-- what waits for its slot -/
inductive Pd (K : PySem.W.Frag) (B : Hp) : Vl → V → L2.St → Env → Prop
  | im {d : D} {v : V} : Rp K B d v → Pd K B (.im d) v [] []
  | fr {d : D} {v : V} : Pd K B (.fr d) v [some v] [.ow d]
theorem Pd.mono {B B' : Hp} {r : Vl} {v : V} {τ : L2.St} {pe : Env} (s : Same B B') (h : Pd K B r v τ pe) : Pd K B' r v τ pe := by
  cases h with
  | im r => exact .im (r.mono s)
  | fr => exact .fr
theorem Pd.vr {B H : Hp} {σ τ0 τ : L2.St} {env pe0 pe : Env} {r : Vl} {v : V} (h : Pd K B r v τ pe) (S : SR K A B H (σ ++ (τ0 ++ τ)) (env ++ (pe0 ++ pe))) : VR K A B H σ τ0 env pe0 r v := by
  cases h with
  | im r => exact ⟨by simpa using S, r⟩
  | fr =>
    show SR K A B H (σ ++ τ0 ++ [some v]) (env ++ pe0 ++ [.ow _])
    rw [List.append_assoc, List.append_assoc]
    exact S
theorem hb_ok {B H : Hp} {σ τ : L2.St} {env pe env' : Env} {r r' : Vl} {v : V} (h : VR K A B H σ τ env pe r v) (hl : σ.length = env.length) (e : hb r env = some (r', env')) :
    ∃ B' τ' pe', Same B B' ∧ σ.length = env'.length ∧ Pd K B' r' v τ' pe' ∧ SR K A B' H (σ ++ (τ ++ τ')) (env' ++ (pe ++ pe')) := by
  cases r with
  | im d =>
    cases e
    exact ⟨B, [], [], Same.refl _, hl, .im h.2, by simpa using h.1⟩
  | fr d =>
    cases e
    have h : SR K A B H (σ ++ τ ++ [some v]) (env ++ pe ++ [.ow d]) := h
    rw [List.append_assoc, List.append_assoc] at h
    exact ⟨B, [some v], [.ow d], Same.refl _, hl, .fr, h⟩
  | bo i =>
    obtain ⟨d, e1, h1, f1⟩ := bd_inv e
    cases f1
    obtain ⟨B1, s1, S1, hl1, rr⟩ := frz_ok h.1 hl (show Hv K B σ (.bo i) v from h.2) h1
    exact ⟨B1, [], [], s1, hl1, .im rr, by simpa using S1⟩
theorem ss_pf {i j : Nat} {t1 t2 : TE} {m n : M Vl} (hij : i ≠ j) (h1 : SEX K A t1 m) (h2 : SEX K A t2 n) : SSX K A (tPar i j (tCons t1 (tCons t2 tNil))) (sPF i j m n) := fun σ B H env env' fl E S e q => by
  unfold sPF at e
  split at e
  · rename_i r1 e1 g1
    split at e
    · rename_i r2 e2 g2
      split at e
      · rename_i e3 g3
        split at e
        · rename_i e4 g4
          cases e
          obtain ⟨q1, f1, a1, b1⟩ := bd_inv g1
          obtain ⟨q2, f2, a2, b2⟩ := bd_inv g2
          refine h1 σ [] B H env [] f1 q1 _ S.nil_app S.len a1 fun B1 H1 v s1 hl1 hv => ?_
          obtain ⟨B2, τ1, pe1, s2, hl2, P1, S2⟩ := hb_ok hv hl1 b1
          refine h2 σ ([] ++ τ1) B2 H1 e1 ([] ++ pe1) f2 q2 _ S2 hl2 a2 fun B3 H3 w s3 hl3 hw => ?_
          obtain ⟨B4, τ2, pe2, s4, hl4, P2, S4⟩ := hb_ok hw hl3 b2
          refine ⟨v, w, rfl, ?_⟩
          rw [List.set_comm _ _ hij]
          refine sg_name (K := K) (A := A) σ ([] ++ τ1) B4 H3 e2 ([] ++ pe1) e3 r2 w (fun σ' H' => E.nx (σ'.set i (some v)) H') (P2.vr S4) hl4 g3 fun σ1 B5 H5 s5 hl5 _ S5 => ?_
          have P1' := P1.mono ((s3.trans s4).trans s5)
          exact sg_name (K := K) (A := A) σ1 [] B5 H5 e3 [] _ r1 v E.nx (P1'.vr S5) hl5 g4 fun σ2 B6 H6 s6 hl6 _ S6 => q σ2 B6 H6 (((s1.trans s2).trans (s3.trans s4)).trans (s5.trans s6)) S6.app_nil
        · cases e
      · cases e
    · cases e
  · cases e
theorem ss_pf3 {i j l : Nat} {t1 t2 t3 : TE} {m n o : M Vl} (hij : i ≠ j) (hil : i ≠ l) (hjl : j ≠ l) (h1 : SEX K A t1 m) (h2 : SEX K A t2 n) (h3 : SEX K A t3 o) : SSX K A (tPar3 i j l (tCons t1 (tCons t2 (tCons t3 tNil)))) (sPF3 i j l m n o) := fun σ B H env env' fl E S e q => by
  unfold sPF3 at e
  split at e
  · rename_i r1 e1 g1
    split at e
    · rename_i r2 e2 g2
      split at e
      · rename_i r3 e3 g3
        split at e
        · rename_i e4 g4
          split at e
          · rename_i e5 g5
            split at e
            · rename_i e6 g6
              cases e
              obtain ⟨q1, f1, a1, b1⟩ := bd_inv g1
              obtain ⟨q2, f2, a2, b2⟩ := bd_inv g2
              obtain ⟨q3, f3, a3, b3⟩ := bd_inv g3
              refine h1 σ [] B H env [] f1 q1 _ S.nil_app S.len a1 fun B1 H1 v s1 hl1 hv => ?_
              obtain ⟨B2, τ1, pe1, s2, hl2, P1, S2⟩ := hb_ok hv hl1 b1
              refine h2 σ ([] ++ τ1) B2 H1 e1 ([] ++ pe1) f2 q2 _ S2 hl2 a2 fun B3 H3 w s3 hl3 hw => ?_
              obtain ⟨B4, τ2, pe2, s4, hl4, P2, S4⟩ := hb_ok hw hl3 b2
              refine h3 σ ([] ++ τ1 ++ τ2) B4 H3 e2 ([] ++ pe1 ++ pe2) f3 q3 _ S4 hl4 a3 fun B5 H5 u s5 hl5 hu => ?_
              obtain ⟨B6, τ3, pe3, s6, hl6, P3, S6⟩ := hb_ok hu hl5 b3
              refine ⟨v, w, u, rfl, ?_⟩
              rw [List.set_comm (i := i) _ _ hij, List.set_comm (i := i) _ _ hil, List.set_comm (i := j) _ _ hjl]
              refine sg_name (K := K) (A := A) σ ([] ++ τ1 ++ τ2) B6 H5 e3 ([] ++ pe1 ++ pe2) e4 r3 u (fun σ' H' => E.nx ((σ'.set j (some w)).set i (some v)) H') (P3.vr S6) hl6 g4 fun σ1 B7 H7 s7 hl7 _ S7 => ?_
              have P2' := P2.mono ((s5.trans s6).trans s7)
              refine sg_name (K := K) (A := A) σ1 ([] ++ τ1) B7 H7 e4 ([] ++ pe1) e5 r2 w (fun σ' H' => E.nx (σ'.set i (some v)) H') (P2'.vr S7) hl7 g5 fun σ2 B8 H8 s8 hl8 _ S8 => ?_
              have P1' := P1.mono (((s3.trans s4).trans ((s5.trans s6).trans s7)).trans s8)
              exact sg_name (K := K) (A := A) σ2 [] B8 H8 e5 [] _ r1 v E.nx (P1'.vr S8) hl8 g6 fun σ3 B9 H9 s9 hl9 _ S9 => q σ3 B9 H9 (((s1.trans s2).trans (s3.trans s4)).trans (((s5.trans s6).trans (s7.trans s8)).trans s9)) S9.app_nil
            · cases e
          · cases e
        · cases e
      · cases e
    · cases e
  · cases e
end
section
variable {g : G0} {c : Ct} {a b d : Expr} {m n o : M Vl} {pos px py pz pt : Pos} {kt k2 pt2}
theorem es_pf {i j : Nat} {x y : Str} (hi : c.N[i]? = some x) (hj : c.N[j]? = some y) (hij : i ≠ j) (hx : c.sc.names.lookup x = some .local) (hy : c.sc.names.lookup y = some .local) (h : EE g c a m) (h' : EE g c b n) (pl : Pl a) (pl2 : Pl b)
    (hw : ∀ env : PySem.Env, env.scope = c.sc → swappedStores [.Tuple [.Name x px, .Name y py] kt pt] (.Tuple [a, b] k2 pt2) env = pure (some [x, y]))
    (hs : ∀ env : PySem.Env, swapsWithSole [.Tuple [.Name x px, .Name y py] kt pt] (.Tuple [a, b] k2 pt2) pos.line env = pure false) :
    ES g c (.Assign [.Tuple [.Name x px, .Name y py] kt pt] (.Tuple [a, b] k2 pt2) pos) (sPF i j m n) := by
  obtain ⟨t, h1, k1⟩ := h
  obtain ⟨u, h2, k2⟩ := h'
  exact ⟨_, fun X hX => ps_par hX.calm hX.nd (by rw [hX.eN]; exact hi) (by rw [hX.eN]; exact hj) hij (by rw [hX.es]; exact hx) (by rw [hX.es]; exact hy) (pa_cons (h1 X hX) (pa_cons (h2 X hX) pa_nil (pl2 [] X.env)) (pl [b] X.env)) (hw X.env hX.es) (hs X.env), fun A => ss_pf hij (k1 A) (k2 A)⟩
theorem es_pf3 {i j l : Nat} {x y z : Str} (hi : c.N[i]? = some x) (hj : c.N[j]? = some y) (hk : c.N[l]? = some z) (hij : i ≠ j) (hil : i ≠ l) (hjl : j ≠ l) (hx : c.sc.names.lookup x = some .local) (hy : c.sc.names.lookup y = some .local) (hz : c.sc.names.lookup z = some .local) (h : EE g c a m) (h' : EE g c b n) (h'' : EE g c d o) (pl : Pl a) (pl2 : Pl b) (pl3 : Pl d)
    (hw : ∀ env : PySem.Env, env.scope = c.sc → swappedStores [.Tuple [.Name x px, .Name y py, .Name z pz] kt pt] (.Tuple [a, b, d] k2 pt2) env = pure (some [x, y, z]))
    (hs : ∀ env : PySem.Env, swapsWithSole [.Tuple [.Name x px, .Name y py, .Name z pz] kt pt] (.Tuple [a, b, d] k2 pt2) pos.line env = pure false) :
    ES g c (.Assign [.Tuple [.Name x px, .Name y py, .Name z pz] kt pt] (.Tuple [a, b, d] k2 pt2) pos) (sPF3 i j l m n o) := by
  obtain ⟨t, h1, k1⟩ := h
  obtain ⟨u, h2, k2⟩ := h'
  obtain ⟨w, h3, k3⟩ := h''
  exact ⟨_, fun X hX => ps_par3 hX.calm hX.nd (by rw [hX.eN]; exact hi) (by rw [hX.eN]; exact hj) (by rw [hX.eN]; exact hk) hij hil hjl (by rw [hX.es]; exact hx) (by rw [hX.es]; exact hy) (by rw [hX.es]; exact hz)
    (pa_cons (h1 X hX) (pa_cons (h2 X hX) (pa_cons (h3 X hX) pa_nil (pl3 [] X.env)) (pl2 [d] X.env)) (pl [b, d] X.env)) (hw X.env hX.es) (hs X.env), fun A => ss_pf3 hij hil hjl (k1 A) (k2 A) (k3 A)⟩
end
end PD
namespace PD
open PySem PySem.Spec PyProof.Rows L2

/-! ### dicts made of pairs -/
def putD {κ : Type} [DecidableEq κ] (es : List (κ × D)) (k : κ) (d : D) : List (κ × D) :=
  if (es.any fun e => decide (e.1 = k)) = true then es.map (fun e => if e.1 = k then (e.1, d) else e) else es ++ [(k, d)]
def mergeD (es more : List (Key × D)) : List (Key × D) := more.foldl (fun acc e => putD acc e.1 e.2) es
def pairsK : List D → Option (List (Key × D))
  | [] => some []
  | .tup [k, v] :: r => match keyD k, pairsK r with
    | some k, some es => some ((k, v) :: es)
    | _, _ => none
  | _ => none
def dictD : List D → Option Vl
  | [.lst ds] => match pairsK ds with
    | some es => some (.fr (.dk (mergeD [] es)))
    | none => none
  | _ => none
section
variable {K : PySem.W.Frag} {B H : Hp} {κ : Type} [DecidableEq κ]
def Kp (K : PySem.W.Frag) (B : Hp) (es : List (κ × D)) (kvs : List (κ × V)) : Prop := Paired (fun e kv => e.1 = kv.1 ∧ Rp K B e.2 kv.2) es kvs
theorem kp_of : ∀ {es : List (κ × D)} {kvs : List (κ × V)}, es.map (·.1) = kvs.map (·.1) → Rps K B (es.map (·.2)) (kvs.map (·.2)) → Kp K B es kvs
  | [], [], _, _ => .nil
  | [], _ :: _, h, _ => by simp at h
  | _ :: _, [], h, _ => by simp at h
  | e :: es, kv :: kvs, h, .cons r t => by
    have h : e.1 = kv.1 ∧ es.map (·.1) = kvs.map (·.1) := by simpa using h
    exact .cons ⟨h.1, r⟩ (kp_of h.2 t)
theorem kp_to : ∀ {es : List (κ × D)} {kvs : List (κ × V)}, Kp K B es kvs → es.map (·.1) = kvs.map (·.1) ∧ Rps K B (es.map (·.2)) (kvs.map (·.2))
  | _, _, .nil => ⟨rfl, .nil⟩
  | e :: es, kv :: kvs, .cons h t => by
    obtain ⟨h1, h2⟩ := kp_to (es := es) (kvs := kvs) t
    exact ⟨by rw [List.map_cons, List.map_cons, h.1, h1], .cons h.2 h2⟩
theorem kp_any {k : κ} : ∀ {es : List (κ × D)} {kvs : List (κ × V)}, Kp K B es kvs → (es.any fun e => decide (e.1 = k)) = (kvs.any fun e => decide (e.1 = k))
  | _, _, .nil => rfl
  | e :: es, kv :: kvs, .cons h t => by
    rw [List.any_cons, List.any_cons, h.1, kp_any (es := es) (kvs := kvs) t]
theorem kp_map {k : κ} {d : D} {v : V} (r : Rp K B d v) : ∀ {es : List (κ × D)} {kvs : List (κ × V)}, Kp K B es kvs → Kp K B (es.map fun e => if e.1 = k then (e.1, d) else e) (kvs.map fun e => if e.1 = k then (e.1, v) else e)
  | _, _, .nil => .nil
  | e :: es, kv :: kvs, .cons h t => by
    refine .cons ?_ (kp_map r (es := es) (kvs := kvs) t)
    dsimp only
    rw [h.1]
    by_cases z : kv.1 = k
    · rw [if_pos z, if_pos z]
      exact ⟨rfl, r⟩
    · rw [if_neg z, if_neg z]
      exact ⟨h.1, h.2⟩
theorem kp_app : ∀ {es fs : List (κ × D)} {kvs us : List (κ × V)}, Kp K B es kvs → Kp K B fs us → Kp K B (es ++ fs) (kvs ++ us)
  | _, _, _, _, .nil, q => q
  | _, _, _, _, .cons h t, q => .cons h (kp_app t q)
theorem kp_put {k : κ} {d : D} {v : V} (r : Rp K B d v) {es : List (κ × D)} {kvs : List (κ × V)} (h : Kp K B es kvs) : Kp K B (putD es k d) (putK kvs k v) := by
  unfold putD putK
  rw [kp_any (k := k) h]
  split
  · exact kp_map r h
  · exact kp_app h (.cons ⟨rfl, r⟩ .nil)
theorem kp_merge : ∀ {more : List (Key × D)} {us : List (Key × V)} {es : List (Key × D)} {kvs : List (Key × V)}, Kp K B more us → Kp K B es kvs → Kp K B (mergeD es more) (mergeK kvs us)
  | _, _, _, _, .nil, q => q
  | e :: more, u :: us, es, kvs, .cons h t, q => by
    show Kp K B (mergeD (putD es e.1 e.2) more) (mergeK (putK kvs u.1 u.2) us)
    rw [h.1]
    exact kp_merge t (kp_put h.2 q)
theorem pairs_kp (s : Same B H) : ∀ {ds : List D} {vs : List V} {es : List (Key × D)}, Rps K B ds vs → pairsK ds = some es → ∃ (ps : List Addr) (kvs : List (Key × V)), vs = ps.map V.ref ∧ Kp K B es kvs ∧ Paired (fun p kv => SqT K H p [kV kv.1, kv.2]) ps kvs
  | [], _, es, .nil, e => by
    cases e
    exact ⟨[], [], rfl, .nil, .nil⟩
  | d :: ds, v :: vs, es, .cons r t, e => by
    unfold pairsK at e
    split at e
    · rename_i heq
      cases heq
    · rename_i k w r0 heq
      cases heq
      split at e
      · rename_i k' es' hk hes
        cases e
        obtain ⟨ps, kvs, h1, h2, h3⟩ := pairs_kp s t hes
        cases r with
        | tup ha rr =>
          rename_i a xs
          obtain ⟨x, y, rfl, rx, ry⟩ := rps2 rr
          have ex : x = kV k' := Rr.key (H := B) (.fz rx) hk
          subst ex
          exact ⟨a :: ps, (k', y) :: kvs, by rw [h1]; rfl, .cons ⟨rfl, ry⟩ h2, .cons (ha.same s).sq h3⟩
      · cases e
    · cases e
end
theorem ca_dict {g : G0} : CaI g (.type "dict") dictD := by
  refine ⟨_, fun c X hX => by
    have := call_dictP (X := X) hX.calm
    rw [hX.eK] at this
    exact this, fun A B H vs env xs ds res Q S rr e q => ?_⟩
  unfold dictD at e
  split at e
  · rename_i ds0
    split at e
    · rename_i es hes
      cases e
      obtain ⟨x, rfl, r1⟩ := pr1 rr
      obtain ⟨a, us, rfl, ha, ra⟩ := r1.lst S.same
      obtain ⟨ps, kvs, rfl, h2, h3⟩ := pairs_kp S.same ra hes
      refine ⟨a, ps, kvs, rfl, .of ha, h3, fun p hp => q B _ _ (Same.refl _) ?_⟩
      have h4 := kp_to (kp_merge h2 (.nil : Kp g.K B ([] : List (Key × D)) []))
      exact S.push hp (.dk h4.1 h4.2)
    · cases e
  · cases e

/-! ### {} -/
def eDk : M Vl := rt (.fr (.dk []))
def eDt : M Vl := rt (.fr (.dt []))
theorem sx_dk {K : PySem.W.Frag} {A : Anc} : SEX K A tDNewK eDk := fun σ τ B H env pe env' r Q S hl e q => by
  cases e
  intro p hp
  exact q B _ _ (Same.refl _) hl (S.push hp (.dk (es := []) (kvs := []) rfl .nil))
theorem sx_dt {K : PySem.W.Frag} {A : Anc} : SEX K A tDNewT eDt := fun σ τ B H env pe env' r Q S hl e q => by
  cases e
  intro p hp
  exact q B _ _ (Same.refl _) hl (S.push hp (.dt (es := []) (kvs := []) rfl .nil))
section
variable {g : G0} {c : Ct} {pos : Pos}
theorem ee_dk : EE g c (.Dict [] [] pos) eDk := ⟨_, fun X hX => pe_dnewK, fun A => sx_dk⟩
theorem ee_dt : EE g c (.Dict [] [] pos) eDt := ⟨_, fun X hX => pe_dnewT, fun A => sx_dt⟩
/-! ### d[k] = v -/
def setDk : D → D → D → Option D
  | .dk es, k, d => match keyD k with
    | some k => if lessL es.length = true then some (.dk (putD es k d)) else none
    | none => none
  | .dt es, .tup ks, d => match keysD ks with
    | some k => if lessL es.length = true then some (.dt (putD es k d)) else none
    | none => none
  | .lst ds, .int i, d => match ixN ds.length i with
    | some j => some (.lst (ds.set j d))
    | none => none
  | _, _, _ => none
def rSetAny : V → V → V → Hp → (Hp → Prop) → Prop := fun o i v H Q => rSetL o i v H Q ∨ ∃ a H', o = .ref a ∧ DPut H a i v H' ∧ Q H'
theorem set_any {X : Cx} {k : Nat} (hr : Room k X.A) : PSet X rSetAny := by
  intro pins s σ H o i v ov iv u Q I ro ri rv h
  rcases h with h | ⟨a, H', rfl, hd, q⟩
  · exact set_list pins s σ H o i v ov iv u Q I ro ri rv h
  · obtain rfl : ov = Value.ref a := ro
    exact d_setItem (by have := hr.un; omega) I hd ri rv fun s' I' => ⟨H', I', q⟩
theorem se_any : SeI g setDk := ⟨rSetAny, fun c X hX => set_any hX.room, fun B H p k v d0 dk d d' Q s c r rv e q => by
  unfold setDk at e
  split at e
  · rename_i es kd d0
    split at e
    · rename_i key hk
      split at e
      · rename_i hl
        cases e
        have ek := r.key hk
        subst ek
        generalize ho : H p = o at c
        cases c with
        | @dk kvs es h1 h2 =>
          have hp := kp_to (kp_put (k := key) rv (kp_of h1 h2))
          have hlen : kvs.length < sizeLine := by
            have := of_decide_eq_true hl
            have e2 := congrArg List.length h1
            rw [List.length_map, List.length_map] at e2
            omega
          exact .inr ⟨p, _, rfl, .k ho hlen, q _ (.dk hp.1 hp.2)⟩
      · cases e
    · cases e
  · rename_i es ks d0
    split at e
    · rename_i key hk
      split at e
      · rename_i hl
        cases e
        obtain ⟨b, xs, rfl, hb, _, rr⟩ := r.tup s
        have ek := rr.keys hk
        subst ek
        generalize ho : H p = o at c
        cases c with
        | @dt kvs es h1 h2 =>
          have hp := kp_to (kp_put (k := key) rv (kp_of h1 h2))
          have hlen : kvs.length < sizeLine := by
            have := of_decide_eq_true hl
            have e2 := congrArg List.length h1
            rw [List.length_map, List.length_map] at e2
            omega
          exact .inr ⟨p, _, rfl, .inr ⟨kvs, key, b, ho, rfl, hb, hlen, rfl⟩, q _ (.dt hp.1 hp.2)⟩
      · cases e
    · cases e
  · rename_i ds i
    split at e
    · rename_i j hj
      cases e
      obtain ⟨ys, hy, rr⟩ := cont_lst c
      exact .inl ⟨p, ys, i, j, rfl, r.int, hy, by rw [← rr.length]; exact hj, q _ (.lst (rr.set rv j))⟩
    · cases e
  · cases e⟩
end

/-! ### any value's truth as a test -/
def truD : D → Option Bool
  | .non => some false
  | .bl b => some b
  | .int i => some (i != 0)
  | .str x => if small x.length = true then some ((x.length : Int) != 0) else none
  | .lst ds => some (!ds.isEmpty)
  | .tup ds => some (!ds.isEmpty)
  | .sc ns => some (!ns.isEmpty)
  | .dk es => some (!es.isEmpty)
  | _ => none
def mT (m : M Vl) : M Bool := bd m fun r e => match cnt e r.hold with
  | some d => match truD d with
    | some b => some (b, e)
    | none => none
  | none => none
section
variable {K : PySem.W.Frag} {A : Anc}
theorem rps_empty {B : Hp} {ds : List D} {vs : List V} (r : Rps K B ds vs) : ds.isEmpty = vs.isEmpty := by
  cases r <;> rfl
theorem tru_of {B H : Hp} {d : D} {v : V} {b : Bool} (s : Same B H) (r : Rr K B H d v) (e : truD d = some b) : TruV K v H b := by
  cases d with
  | non => cases e; rw [r.non]; rfl
  | bl b => cases e; rw [r.bl]; rfl
  | int i => cases e; rw [r.int]; rfl
  | str x =>
    unfold truD at e
    dsimp only at e
    split at e
    · rename_i hs
      cases e
      rw [r.str.1]
      exact ⟨of_decide_eq_true hs, rfl⟩
    · cases e
  | lst ds =>
    cases e
    obtain ⟨a, xs, rfl, ha, rr⟩ := r.lst s
    exact .inl ⟨xs, .of ha, by rw [rps_empty rr]⟩
  | tup ds =>
    cases e
    obtain ⟨a, xs, rfl, ha, _, rr⟩ := r.tup s
    exact .inr (.inl ⟨xs, .inl (.inl ha), by rw [rps_empty rr]⟩)
  | sc ns =>
    cases e
    obtain ⟨a, rfl, ha⟩ := r.sc s
    exact .inl ⟨_, ha, by cases ns <;> rfl⟩
  | dk es =>
    cases e
    obtain ⟨a, kvs, rfl, ha, h1, h2⟩ := r.dk s
    refine .inr (.inr ⟨kvs, ha, ?_⟩)
    cases es <;> cases kvs <;> simp at h1 ⊢
  | _ => cases e
theorem st_tru {t : TE} {m : M Vl} (h : SEX K A t m) : STX K A (fun σ H Q => t σ H fun x H' => ∃ k, TruV K x H' k ∧ Q k H') (mT m) := fun σ τ B H env pe env' b Q S hl e q => by
  obtain ⟨r, e1, h1, f1⟩ := bd_inv e
  refine h σ τ B H env pe e1 r _ S hl h1 fun B1 H1 v s1 hl1 hv => ?_
  obtain ⟨B2, s2, S2, hh⟩ := hv.held
  split at f1
  · rename_i d hd
    split at f1
    · rename_i b' hb
      cases f1
      exact ⟨_, tru_of S2.same (hh.rr S2 hl1 hd) hb, q B2 H1 (s1.trans s2) hl1 S2⟩
    · cases f1
  · cases f1
end
theorem et_tru {g : G0} {c : Ct} {e : Expr} {m : M Vl} (h : EE g c e m) (he : ∀ (env : PySem.Env) whole, isTrue e env whole = (do let v ← whole; standAt e.pos; holding [v] (truthy v))) : ET g c e (mT m) := by
  obtain ⟨t, h1, h2⟩ := h
  exact ⟨fun σ H Q => t σ H fun x H' => ∃ k, TruV g.K x H' k ∧ Q k H', fun X hX => by
    rw [← hX.eK]
    exact pt_truth (h1 X hX) (he X.env), fun A => st_tru (h2 A)⟩
end PD
namespace PD
open PySem PySem.Spec PyProof.Rows L2

/-! ### a, b = x, y where a or b is a cell: the tuple is made and taken apart -/
section
variable {K : PySem.W.Frag} {A : Anc}
theorem ss_pfc {i j : Nat} {t1 t2 : TE} {m n : M Vl} (hij : i ≠ j) (h1 : SEX K A t1 m) (h2 : SEX K A t2 n) :
    SSX K A (tAsg (tTup (tCons t1 (tCons t2 tNil))) (gTup K 2 (gCons (gName i) (gCons (gName j) gNil)))) (sPF i j m n) := fun σ B H env env' fl E S e q => by
  unfold sPF at e
  split at e
  · rename_i r1 e1 g1
    split at e
    · rename_i r2 e2 g2
      split at e
      · rename_i e3 g3
        split at e
        · rename_i e4 g4
          cases e
          obtain ⟨q1, f1, a1, b1⟩ := bd_inv g1
          obtain ⟨q2, f2, a2, b2⟩ := bd_inv g2
          refine h1 σ [] B H env [] f1 q1 _ S.nil_app S.len a1 fun B1 H1 v s1 hl1 hv => ?_
          obtain ⟨B2, τ1, pe1, s2, hl2, P1, S2⟩ := hb_ok hv hl1 b1
          refine h2 σ ([] ++ τ1) B2 H1 e1 ([] ++ pe1) f2 q2 _ S2 hl2 a2 fun B3 H3 w s3 hl3 hw => ?_
          obtain ⟨B4, τ2, pe2, s4, hl4, P2, S4⟩ := hb_ok hw hl3 b2
          refine ⟨by show 2 ≤ sizeLine; decide, fun p hp => ?_⟩
          refine ⟨p, [v, w], rfl, .inl (.inl upd_same), rfl, v, [w], rfl, w, [], rfl, rfl, ?_⟩
          rw [List.set_comm _ _ hij]
          have S4' := S4.laid (o := .tup [v, w]) hp
          refine sg_name (K := K) (A := A) σ ([] ++ τ1) B4 _ e2 ([] ++ pe1) e3 r2 w (fun σ' H' => E.nx (σ'.set i (some v)) H') (P2.vr S4') hl4 g3 fun σ1 B5 H5 s5 hl5 _ S5 => ?_
          have P1' := P1.mono ((s3.trans s4).trans s5)
          exact sg_name (K := K) (A := A) σ1 [] B5 H5 e3 [] _ r1 v E.nx (P1'.vr S5) hl5 g4 fun σ2 B6 H6 s6 hl6 _ S6 => q σ2 B6 H6 (((s1.trans s2).trans (s3.trans s4)).trans (s5.trans s6)) S6.app_nil
        · cases e
      · cases e
    · cases e
  · cases e
theorem ss_pfc3 {i j l : Nat} {t1 t2 t3 : TE} {m n o : M Vl} (hij : i ≠ j) (hil : i ≠ l) (hjl : j ≠ l) (h1 : SEX K A t1 m) (h2 : SEX K A t2 n) (h3 : SEX K A t3 o) :
    SSX K A (tAsg (tTup (tCons t1 (tCons t2 (tCons t3 tNil)))) (gTup K 3 (gCons (gName i) (gCons (gName j) (gCons (gName l) gNil))))) (sPF3 i j l m n o) := fun σ B H env env' fl E S e q => by
  unfold sPF3 at e
  split at e
  · rename_i r1 e1 g1
    split at e
    · rename_i r2 e2 g2
      split at e
      · rename_i r3 e3 g3
        split at e
        · rename_i e4 g4
          split at e
          · rename_i e5 g5
            split at e
            · rename_i e6 g6
              cases e
              obtain ⟨q1, f1, a1, b1⟩ := bd_inv g1
              obtain ⟨q2, f2, a2, b2⟩ := bd_inv g2
              obtain ⟨q3, f3, a3, b3⟩ := bd_inv g3
              refine h1 σ [] B H env [] f1 q1 _ S.nil_app S.len a1 fun B1 H1 v s1 hl1 hv => ?_
              obtain ⟨B2, τ1, pe1, s2, hl2, P1, S2⟩ := hb_ok hv hl1 b1
              refine h2 σ ([] ++ τ1) B2 H1 e1 ([] ++ pe1) f2 q2 _ S2 hl2 a2 fun B3 H3 w s3 hl3 hw => ?_
              obtain ⟨B4, τ2, pe2, s4, hl4, P2, S4⟩ := hb_ok hw hl3 b2
              refine h3 σ ([] ++ τ1 ++ τ2) B4 H3 e2 ([] ++ pe1 ++ pe2) f3 q3 _ S4 hl4 a3 fun B5 H5 u s5 hl5 hu => ?_
              obtain ⟨B6, τ3, pe3, s6, hl6, P3, S6⟩ := hb_ok hu hl5 b3
              refine ⟨by show 3 ≤ sizeLine; decide, fun p hp => ?_⟩
              refine ⟨p, [v, w, u], rfl, .inl (.inl upd_same), rfl, v, [w, u], rfl, w, [u], rfl, u, [], rfl, rfl, ?_⟩
              rw [List.set_comm (i := i) _ _ hij, List.set_comm (i := i) _ _ hil, List.set_comm (i := j) _ _ hjl]
              have S6' := S6.laid (o := .tup [v, w, u]) hp
              refine sg_name (K := K) (A := A) σ ([] ++ τ1 ++ τ2) B6 _ e3 ([] ++ pe1 ++ pe2) e4 r3 u (fun σ' H' => E.nx ((σ'.set j (some w)).set i (some v)) H') (P3.vr S6') hl6 g4 fun σ1 B7 H7 s7 hl7 _ S7 => ?_
              have P2' := P2.mono ((s5.trans s6).trans s7)
              refine sg_name (K := K) (A := A) σ1 ([] ++ τ1) B7 H7 e4 ([] ++ pe1) e5 r2 w (fun σ' H' => E.nx (σ'.set i (some v)) H') (P2'.vr S7) hl7 g5 fun σ2 B8 H8 s8 hl8 _ S8 => ?_
              have P1' := P1.mono (((s3.trans s4).trans ((s5.trans s6).trans s7)).trans s8)
              exact sg_name (K := K) (A := A) σ2 [] B8 H8 e5 [] _ r1 v E.nx (P1'.vr S8) hl8 g6 fun σ3 B9 H9 s9 hl9 _ S9 => q σ3 B9 H9 (((s1.trans s2).trans (s3.trans s4)).trans (((s5.trans s6).trans (s7.trans s8)).trans s9)) S9.app_nil
            · cases e
          · cases e
        · cases e
      · cases e
    · cases e
  · cases e
end
section
variable {g : G0} {c : Ct} {a b d : Expr} {m n o : M Vl} {pos px py pz pt pt2 : Pos} {kt k2 : Nat}
theorem pgn {X : Cx} (hX : Cok g c X) {i : Nat} {x : Str} (hN : c.N[i]? = some x) (hv : Loc c.sc x) (hf : c.fb x = true) : PG X (.Name x pos) (gName i) :=
  pg_name hX.nd (by rw [hX.eN]; exact hN) (by rw [hX.es]; exact hv) (.inl (hX.fn x hf))
theorem es_pfc {i j : Nat} {x y : Str} (hi : c.N[i]? = some x) (hj : c.N[j]? = some y) (hij : i ≠ j) (hx : Loc c.sc x) (hy : Loc c.sc y) (fx : c.fb x = true) (fy : c.fb y = true) (h : EE g c a m) (h' : EE g c b n) (pl : Pl a) (pl2 : Pl b)
    (hw : ∀ env : PySem.Env, env.scope = c.sc → swappedStores [.Tuple [.Name x px, .Name y py] kt pt] (.Tuple [a, b] k2 pt2) env = pure none)
    (hs : ∀ env : PySem.Env, swapsWithSole [.Tuple [.Name x px, .Name y py] kt pt] (.Tuple [a, b] k2 pt2) pos.line env = pure false) :
    ES g c (.Assign [.Tuple [.Name x px, .Name y py] kt pt] (.Tuple [a, b] k2 pt2) pos) (sPF i j m n) := by
  obtain ⟨t, h1, k1⟩ := h
  obtain ⟨u, h2, k2⟩ := h'
  exact ⟨tAsg (tTup (tCons t (tCons u tNil))) (gTup g.K 2 (gCons (gName i) (gCons (gName j) gNil))), fun X hX => ps_asg (pe_tup (pa_cons (h1 X hX) (pa_cons (h2 X hX) pa_nil (pl2 [] X.env)) (pl [b] X.env)))
    (by
      rw [← hX.eK]
      exact pg_tup hX.calm (pgs_cons (pgn hX hi hx fx) (pgs_cons (pgn hX hj hy fy) pgs_nil))) (hs X.env) (hw X.env hX.es), fun A => ss_pfc hij (k1 A) (k2 A)⟩
theorem es_pfc3 {i j l : Nat} {x y z : Str} (hi : c.N[i]? = some x) (hj : c.N[j]? = some y) (hk : c.N[l]? = some z) (hij : i ≠ j) (hil : i ≠ l) (hjl : j ≠ l) (hx : Loc c.sc x) (hy : Loc c.sc y) (hz : Loc c.sc z) (fx : c.fb x = true) (fy : c.fb y = true) (fz : c.fb z = true) (h : EE g c a m) (h' : EE g c b n) (h'' : EE g c d o) (pl : Pl a) (pl2 : Pl b) (pl3 : Pl d)
    (hw : ∀ env : PySem.Env, env.scope = c.sc → swappedStores [.Tuple [.Name x px, .Name y py, .Name z pz] kt pt] (.Tuple [a, b, d] k2 pt2) env = pure none)
    (hs : ∀ env : PySem.Env, swapsWithSole [.Tuple [.Name x px, .Name y py, .Name z pz] kt pt] (.Tuple [a, b, d] k2 pt2) pos.line env = pure false) :
    ES g c (.Assign [.Tuple [.Name x px, .Name y py, .Name z pz] kt pt] (.Tuple [a, b, d] k2 pt2) pos) (sPF3 i j l m n o) := by
  obtain ⟨t, h1, k1⟩ := h
  obtain ⟨u, h2, k2⟩ := h'
  obtain ⟨w, h3, k3⟩ := h''
  exact ⟨tAsg (tTup (tCons t (tCons u (tCons w tNil)))) (gTup g.K 3 (gCons (gName i) (gCons (gName j) (gCons (gName l) gNil)))), fun X hX => ps_asg (pe_tup (pa_cons (h1 X hX) (pa_cons (h2 X hX) (pa_cons (h3 X hX) pa_nil (pl3 [] X.env)) (pl2 [d] X.env)) (pl [b, d] X.env)))
    (by
      rw [← hX.eK]
      exact pg_tup hX.calm (pgs_cons (pgn hX hi hx fx) (pgs_cons (pgn hX hj hy fy) (pgs_cons (pgn hX hk hz fz) pgs_nil)))) (hs X.env) (hw X.env hX.es), fun A => ss_pfc3 hij hil hjl (k1 A) (k2 A) (k3 A)⟩
end
end PD
namespace PD
open PySem PySem.Spec PyProof.Rows L2

/-! ### an expression that only reads: all is frozen while it runs, and thawed behind it -/
def D.atom : D → Bool
  | .non => true
  | .bl _ => true
  | .int _ => true
  | .str _ => true
  | .txt _ => true
  | _ => false
def Sl.frz : Sl → Sl
  | .ow d => .im d
  | .io _ d => .im d
  | s => s
def eTmp (m : M Vl) : M Vl := fun e => match m (e.map Sl.frz) with
  | some (.im d, _) => if d.atom = true then some (.im d, e) else none
  | _ => none
section
variable {K : PySem.W.Frag}
theorem Rp.atom {B B' : Hp} {d : D} {v : V} (h : d.atom = true) (r : Rp K B d v) : Rp K B' d v := by
  cases r with
  | non => exact .non
  | bl b => exact .bl b
  | int i => exact .int i
  | str x ho => exact .str x ho
  | txt x => exact .txt x
  | _ => cases h
open Classical in
theorem SR.allFrz {A : Anc} {B H : Hp} {σ : L2.St} {env : Env} (S : SR K A B H σ env) : ∃ B', Same B B' ∧ SR K ⟨H, B', fun _ => none⟩ B' H σ (env.map Sl.frz) := by
  let held : Addr → Prop := fun a => ∃ (i : Nat) (sl : Sl), env[i]? = some sl ∧ sl.mut = true ∧ σ[i]? = some (some (.ref a))
  let B' : Hp := fun a => match B a with
    | some o => some o
    | none => if held a then H a else none
  have hB : Same B B' := fun a o e => by
    show (match B a with | some o => some o | none => if held a then H a else none) = some o
    rw [e]
  have hH : Same B' H := fun a o e => by
    have e : (match B a with | some o => some o | none => if held a then H a else none) = some o := e
    cases hb : B a with
    | some u =>
      rw [hb] at e
      cases e
      exact S.same _ _ hb
    | none =>
      rw [hb] at e
      dsimp only at e
      split at e
      · exact e
      · cases e
  have atp : ∀ (p : Addr) (i : Nat) (sl : Sl), env[i]? = some sl → sl.mut = true → σ[i]? = some (some (V.ref p)) → B' p = H p := fun p i sl e1 m e2 => by
    show (match B p with | some o => some o | none => if held p then H p else none) = H p
    cases hb : B p with
    | some u => exact (S.same _ _ hb).symm
    | none =>
      show (if held p then H p else none) = H p
      rw [if_pos ⟨i, sl, e1, m, e2⟩]
  refine ⟨B', hB, ⟨by rw [List.length_map]; exact S.len, hH, fun i sl ov e1 e2 => ?_, fun i j p s1 s2 ne e1 e2 m1 _ _ _ => ?_, fun a o e _ => ⟨e, .inl rfl⟩, fun a ⟨j, h⟩ => (by cases h), fun a ⟨j, h⟩ => (by cases h)⟩⟩
  · rw [List.getElem?_map] at e1
    cases he : env[i]? with
    | none =>
      rw [he] at e1
      cases e1
    | some sl0 =>
      rw [he] at e1
      cases e1
      cases S.slot i sl0 ov he e2 with
      | em => exact .em
      | im r => exact .im (r.mono hB)
      | ow b h c => exact .im (c.frozen hB (atp _ i _ he rfl e2))
      | io h c => exact .im (c.frozen hB (atp _ i _ he rfl e2))
  · rw [List.getElem?_map] at e1
    cases he : env[i]? with
    | none =>
      rw [he] at e1
      cases e1
    | some sl0 =>
      rw [he] at e1
      cases e1
      cases sl0 <;> cases m1
theorem sx_tmp {t : TE} {m : M Vl} (h : ∀ A, SEX K A t m) (A : Anc) : SEX K A t (eTmp m) := fun σ τ B H env pe env' r Q S hl e q => by
  unfold eTmp at e
  split at e
  · rename_i d e1 hm
    split at e
    · rename_i ha
      cases e
      obtain ⟨B', sB, S'⟩ := S.allFrz
      rw [List.map_append] at S'
      refine h ⟨H, B', fun _ => none⟩ σ τ B' H (env.map Sl.frz) (pe.map Sl.frz) e1 (.im d) Q S' (by rw [List.length_map]; exact hl) hm fun B2 H2 v s2 hl2 hv => ?_
      obtain ⟨S2, r2⟩ := hv
      have keep : ∀ a o, H a = some o → H2 a = some o := fun a o ho => (S2.anc a o ho fun ⟨j, z⟩ => by cases z).1
      refine q B H2 v (Same.refl _) hl ⟨⟨S.len, fun a o ho => keep a o (S.same a o ho), fun i sl ov e1 e2 => ?_, S.inj, fun a o ho n => ?_, fun a ha' => ?_, S.ioh⟩, r2.atom ha⟩
      · refine (S.slot i sl ov e1 e2).grow (Same.refl _) (fun p d _ _ c => ?_) (fun _ _ _ z => z)
        obtain ⟨o, ho⟩ := c.some
        rw [ho, keep p o ho]
      · obtain ⟨h1, h2⟩ := S.anc a o ho n
        exact ⟨keep a o h1, h2⟩
      · obtain ⟨h1, o, h2, nt⟩ := S.iob a ha'
        exact ⟨h1, o, keep a o h2, nt⟩
    · cases e
  · cases e
theorem ee_tmp {g : G0} {c : Ct} {e : Expr} {m : M Vl} (h : EE g c e m) : EE g c e (eTmp m) := by
  obtain ⟨t, h1, h2⟩ := h
  exact ⟨t, h1, fun A => sx_tmp h2 A⟩
/-- .. a test -/
def mTmp (m : M Bool) : M Bool := fun e => match m (e.map Sl.frz) with
  | some (b, _) => some (b, e)
  | none => none
theorem st_tmp {t : TT} {m : M Bool} (h : ∀ A, STX K A t m) (A : Anc) : STX K A t (mTmp m) := fun σ τ B H env pe env' b Q S hl e q => by
  unfold mTmp at e
  split at e
  · rename_i b1 e1 hm
    cases e
    obtain ⟨B', sB, S'⟩ := S.allFrz
    rw [List.map_append] at S'
    refine h ⟨H, B', fun _ => none⟩ σ τ B' H (env.map Sl.frz) (pe.map Sl.frz) e1 b Q S' (by rw [List.length_map]; exact hl) hm fun B2 H2 s2 hl2 S2 => ?_
    have keep : ∀ a o, H a = some o → H2 a = some o := fun a o ho => (S2.anc a o ho fun ⟨j, z⟩ => by cases z).1
    refine q B H2 (Same.refl _) hl ⟨S.len, fun a o ho => keep a o (S.same a o ho), fun i sl ov e1 e2 => ?_, S.inj, fun a o ho n => ?_, fun a ha' => ?_, S.ioh⟩
    · refine (S.slot i sl ov e1 e2).grow (Same.refl _) (fun p d _ _ c => ?_) (fun _ _ _ z => z)
      obtain ⟨o, ho⟩ := c.some
      rw [ho, keep p o ho]
    · obtain ⟨h1, h2⟩ := S.anc a o ho n
      exact ⟨keep a o h1, h2⟩
    · obtain ⟨h1, o, h2, nt⟩ := S.iob a ha'
      exact ⟨h1, o, keep a o h2, nt⟩
  · cases e
theorem et_tmp {g : G0} {c : Ct} {e : Expr} {m : M Bool} (h : ET g c e m) : ET g c e (mTmp m) := by
  obtain ⟨t, h1, h2⟩ := h
  exact ⟨t, h1, fun A => st_tmp h2 A⟩
end
end PD
namespace PD
open PySem PySem.Spec PyProof.Rows L2
/-- a comprehension with a test that leaves the slots as they are -/
theorem compL_flt {vs : List Nat} {g : Vl → M Unit} {tt : M Bool} {te : M Vl} {e0 : Env} (p : D → Bool) (f : D → D) : ∀ {ds : List D},
    (∀ d, d ∈ ds → ∃ e1 e2, g (.im d) e0 = some ((), e1) ∧ tt e1 = some (p d, e2) ∧ (p d = false → wipeE e2 vs = e0) ∧ (p d = true → ∃ r e3 e4, te e2 = some (r, e3) ∧ frz r.hold e3 = some (f d, e4) ∧ wipeE e4 vs = e0)) →
    compL vs g tt te ds e0 = some ((ds.filter p).map f, e0)
  | [], h => rfl
  | d :: ds, h => by
    obtain ⟨e1, e2, h1, h2, h3, h4⟩ := h d (List.mem_cons_self ..)
    have ih := compL_flt p f (ds := ds) fun d hd => h d (List.mem_cons_of_mem _ hd)
    unfold compL
    cases hp : p d with
    | false =>
      rw [hp] at h2
      simp only [h1, h2, h3 hp, ih, List.filter_cons, hp, Bool.false_eq_true, if_false]
    | true =>
      rw [hp] at h2
      obtain ⟨r, e3, e4, h5, h6, h7⟩ := h4 hp
      simp only [h1, h2, h5, h6, h7, ih, List.filter_cons, hp, if_true, List.map_cons]
/-- .. with slots that change: what comes of it, and how many -/
theorem compL_any {vs : List Nat} {g : Vl → M Unit} {tt : M Bool} {te : M Vl} {P : Nat → Env → Prop} {R : D → D → Prop} : ∀ {ds : List D} {k : Nat} {e : Env},
    (∀ i d e, ds[i]? = some d → P (k + i) e → ∃ e1 b e2, g (.im d) e = some ((), e1) ∧ tt e1 = some (b, e2) ∧ (b = false → P (k + i + 1) (wipeE e2 vs)) ∧ (b = true → ∃ r e3 y e4, te e2 = some (r, e3) ∧ frz r.hold e3 = some (y, e4) ∧ R d y ∧ P (k + i + 1) (wipeE e4 vs))) →
    P k e → ∃ ys e', compL vs g tt te ds e = some (ys, e') ∧ P (k + ds.length) e' ∧ ys.length ≤ ds.length ∧ ∀ y ∈ ys, ∃ d ∈ ds, R d y
  | [], k, e, h, p => ⟨[], e, rfl, p, Nat.le_refl _, fun _ h => by simp at h⟩
  | d :: ds, k, e, h, p => by
    obtain ⟨e1, b, e2, h1, h2, h3, h4⟩ := h 0 d e rfl p
    have next : ∀ {e}, P (k + 1) e → _ := fun {e} hp => compL_any (ds := ds) (k := k + 1) (e := e) (R := R) (P := P) (vs := vs) (g := g) (tt := tt) (te := te) (fun i d e hd hp => by
      have := h (i + 1) d e hd (by rw [show k + (i + 1) = k + 1 + i by omega]; exact hp)
      rwa [show k + (i + 1) + 1 = k + 1 + i + 1 by omega] at this) hp
    cases b with
    | false =>
      obtain ⟨ys, e', g1, g2, g3, g4⟩ := next (h3 rfl)
      refine ⟨ys, e', ?_, ?_, by rw [List.length_cons]; omega, fun y hy => ?_⟩
      · unfold compL
        simp only [h1, h2, g1]
      · rw [List.length_cons, show k + (ds.length + 1) = k + 1 + ds.length by omega]
        exact g2
      · obtain ⟨d', a, b⟩ := g4 y hy
        exact ⟨d', List.mem_cons_of_mem _ a, b⟩
    | true =>
      obtain ⟨r, e3, y, e4, h5, h6, h7, h8⟩ := h4 rfl
      obtain ⟨ys, e', g1, g2, g3, g4⟩ := next h8
      refine ⟨y :: ys, e', ?_, ?_, by rw [List.length_cons, List.length_cons]; omega, fun z hz => ?_⟩
      · unfold compL
        simp only [h1, h2, h5, h6, g1]
      · rw [List.length_cons, show k + (ds.length + 1) = k + 1 + ds.length by omega]
        exact g2
      · rcases List.mem_cons.mp hz with rfl | hz
        · exact ⟨d, List.mem_cons_self .., h7⟩
        · obtain ⟨d', a, b⟩ := g4 z hz
          exact ⟨d', List.mem_cons_of_mem _ a, b⟩
/-- a while loop by a measure -/
theorem whlL_inv {c : M Bool} {b : SM} {P : Nat → Env → Prop} {Q : Env → Prop} : ∀ {n m : Nat} {e : Env},
    (∀ m e, P m e → (∃ e1, c e = some (false, e1) ∧ Q e1) ∨ ∃ m' e1 e2, m = m' + 1 ∧ c e = some (true, e1) ∧ (b e1 = some (.nx, e2) ∨ b e1 = some (.ct, e2)) ∧ P m' e2) → P m e → m < n → ∃ e', whlL c b n e = some (.nx, e') ∧ Q e'
  | 0, m, e, h, p, hn => by omega
  | n + 1, m, e, h, p, hn => by
    rcases h m e p with ⟨e1, h1, h2⟩ | ⟨m', e1, e2, rfl, h1, h2, h3⟩
    · exact ⟨e1, by unfold whlL; simp only [h1], h2⟩
    · obtain ⟨e', g1, g2⟩ := whlL_inv (n := n) h h3 (by omega)
      refine ⟨e', ?_, g2⟩
      unfold whlL
      rcases h2 with h2 | h2 <;> simp only [h1, h2, g1]
end PD
namespace PD
open PySem PySem.Spec PyProof.Rows L2
/-- a name's letters -/
def LT : List Nat := (Str.ofString "abcdefghijklmnopqrstuvwxyz").cps.toList
theorem LT_len : LT.length = 26 := by decide +kernel
theorem LT_nodup : LT.Nodup := by decide +kernel
theorem LT_low : ∀ c ∈ LT, c < 128 := by decide +kernel
theorem LT_small : small (Str.ofString "abcdefghijklmnopqrstuvwxyz").length = true := by decide +kernel
theorem strsD_signs : ∀ cs : List Nat, strsD (cs.map fun c => D.str ⟨#[c]⟩) = some (cs.map fun c => (⟨#[c]⟩ : Str))
  | [] => rfl
  | c :: r => by
    show (strsD (r.map fun c => D.str ⟨#[c]⟩)).map ((⟨#[c]⟩ : Str) :: ·) = _
    rw [strsD_signs r]
    rfl
theorem sum_signs : ∀ cs : List Nat, ((cs.map fun c => (⟨#[c]⟩ : Str)).map (·.length)).sum = cs.length
  | [] => rfl
  | c :: r => by
    rw [List.map_cons, List.map_cons, List.sum_cons, sum_signs r, List.length_cons]
    show 1 + r.length = _
    omega
theorem join_sem (cs : List Nat) (h : cs.length ≤ 1000) (hc : ∀ c ∈ cs, c < 128) : joinD [.str (Str.ofString ""), .lst (cs.map fun c => D.str ⟨#[c]⟩)] = some (.im (.str ⟨cs.toArray⟩)) := by
  have e0 : (Str.ofString "").length = 0 := by decide +kernel
  have e1 : (cs.map fun c => (⟨#[c]⟩ : Str)).length = cs.length := List.length_map ..
  have e2 : Txt.join (Str.ofString "") (cs.map fun c => (⟨#[c]⟩ : Str)) = ⟨cs.toArray⟩ := txt_join_signs cs
  have e3 : PyData.strOk ⟨cs.toArray⟩ = true := ok_mem.mpr fun c h => Nat.lt_trans (hc c (by simpa using h)) (by decide)
  have e4 : cs.length ≤ 16777216 := by omega
  unfold joinD
  simp only [strsD_signs, sum_signs, e0, e2, e3, Nat.mul_zero, Nat.add_zero, e4, decide_true, Bool.and_self, if_true]
/-- the letters of a list of single signs -/
theorem signs_of : ∀ {ds ys : List D}, Paired (fun _ y => ∃ c ∈ LT, y = D.str ⟨#[c]⟩) ds ys → ∃ cs : List Nat, ys = cs.map (fun c => D.str ⟨#[c]⟩) ∧ (∀ c ∈ cs, c ∈ LT) ∧ cs.length = ds.length
  | _, _, .nil => ⟨[], rfl, fun _ h => by simp at h, rfl⟩
  | _, _, .cons h t => by
    obtain ⟨c, hc, rfl⟩ := h
    obtain ⟨cs, rfl, h2, h3⟩ := signs_of t
    exact ⟨c :: cs, rfl, fun d hd => by
      rcases List.mem_cons.mp hd with rfl | hd
      · exact hc
      · exact h2 d hd, by rw [List.length_cons, List.length_cons, h3]⟩
theorem letter_at (r : Int) (h0 : 0 ≤ r) (h1 : r < 26) : ∃ c ∈ LT, L2.atI (Str.ofString "abcdefghijklmnopqrstuvwxyz").cps.toList r = some c := by
  obtain ⟨c, hc, e⟩ := atI_in (l := LT) h0 (by rw [LT_len]; omega)
  exact ⟨c, hc, e⟩
theorem As.small {n : Nat} {x : Str} (h : As n x) (hn : n ≤ 1000000) : PD.small x.length = true := small_lit (by have := h.1; omega)
theorem As.small2 {n m : Nat} {x y : Str} (h : As n x) (h' : As m y) (hn : n + m ≤ 1000000) : PD.small (x.length + y.length) = true := small_lit (by have := h.1; have := h'.1; omega)
theorem cut_len (x : Str) (lo hi : Option Int) : (cutS x lo hi).length = min (HT.sIx x.length x.length hi - HT.sIx x.length 0 lo) (x.length - HT.sIx x.length 0 lo) := by
  show ((x.cps.toList.drop (HT.sIx x.length 0 lo)).take (HT.sIx x.length x.length hi - HT.sIx x.length 0 lo)).toArray.size = _
  simp
  rfl
theorem rng_get {lo : Int} {m i : Nat} {d : D} (h : (rngD lo m)[i]? = some d) : i < m ∧ d = .int (lo + i) := by
  unfold rngD at h
  rw [List.getElem?_map] at h
  cases h1 : (List.range m)[i]? with
  | none =>
    rw [h1] at h
    cases h
  | some j =>
    rw [h1] at h
    cases h
    obtain ⟨h2, h3⟩ := List.getElem?_eq_some_iff.mp h1
    rw [List.getElem_range] at h3
    exact ⟨by simpa using h2, by rw [h3]⟩
theorem rng_len (lo : Int) (m : Nat) : (rngD lo m).length = m := by simp [rngD]
end PD
namespace PD
open PySem PySem.Spec PyProof.Rows L2
/-! ### what must hold ahead of a step: the rules to run a body by -/
class K1 (α : Type) where
  run : α → Prop
class K2 (α : Type) where
  run : α → Env → Prop
class KB where
  t : Prop
  f : Prop
class KC where
  p : Prop
def W {α : Type} (m : Env → Option (α × Env)) (e : Env) [K : K2 α] : Prop := ∃ a e', m e = some (a, e') ∧ K.run a e'
def WO {α : Type} (o : Option α) [K : K1 α] : Prop := ∃ a, o = some a ∧ K.run a
def WB (b : Bool) [K : KB] : Prop := if b = true then K.t else K.f
def WC (c : Bool) [K : KC] : Prop := c = true ∧ K.p
theorem run1 {α : Type} {f : α → Prop} {a : α} : (K1.mk f).run a = f a := rfl
theorem run2 {α : Type} {f : α → Env → Prop} {a : α} {e : Env} : (K2.mk f).run a e = f a e := rfl
section
variable {α β : Type} {e : Env}
theorem W_eq {m : Env → Option (α × Env)} {Q : α → Env → Prop} : @W _ m e ⟨Q⟩ = (match m e with | some p => Q p.1 p.2 | none => False) := by
  unfold W
  cases h : m e with
  | none => simp
  | some p => exact propext ⟨fun ⟨a, e', h1, h2⟩ => by cases h1; exact h2, fun h => ⟨_, _, rfl, h⟩⟩
theorem WO_eq {o : Option α} {K : α → Prop} : @WO _ o ⟨K⟩ = (match o with | some p => K p | none => False) := by
  unfold WO
  cases o with
  | none => simp
  | some p => exact propext ⟨fun ⟨a, h1, h2⟩ => by cases h1; exact h2, fun h => ⟨_, rfl, h⟩⟩
theorem WO_some {a : α} {K : α → Prop} : @WO _ (some a) ⟨K⟩ = K a := WO_eq
theorem WO_none {K : α → Prop} : @WO _ none ⟨K⟩ = False := WO_eq
theorem WO_if {c : Bool} {a : α} {K : α → Prop} (h : c = true) (q : K a) : @WO _ (if c = true then some a else none) ⟨K⟩ := by
  rw [if_pos h, WO_some]
  exact q
theorem WO_mono {o : Option α} {K K' : α → Prop} (h : @WO _ o ⟨K⟩) (q : ∀ a, K a → K' a) : @WO _ o ⟨K'⟩ := by
  obtain ⟨a, e, k⟩ := h
  exact ⟨a, e, q a k⟩
theorem WO_of {o : Option α} {a : α} {K : α → Prop} (h : o = some a) (q : K a) : @WO _ o ⟨K⟩ := ⟨a, h, q⟩
theorem W_mono {m : Env → Option (α × Env)} {Q Q' : α → Env → Prop} (h : @W _ m e ⟨Q⟩) (q : ∀ a e', Q a e' → Q' a e') : @W _ m e ⟨Q'⟩ := by
  obtain ⟨a, e', h1, k⟩ := h
  exact ⟨a, e', h1, q a e' k⟩
theorem W_of {m : Env → Option (α × Env)} {a : α} {e' : Env} {Q : α → Env → Prop} (h : m e = some (a, e')) (q : Q a e') : @W _ m e ⟨Q⟩ := ⟨a, e', h, q⟩
theorem WB_true {P R : Prop} : @WB true ⟨P, R⟩ = P := if_pos rfl
theorem WB_false {P R : Prop} : @WB false ⟨P, R⟩ = R := if_neg Bool.false_ne_true
theorem WB_cases {b : Bool} {P R : Prop} (h : b = true → P) (h' : b = false → R) : @WB b ⟨P, R⟩ := by
  cases b with
  | true => exact (WB_true (P := P) (R := R)).mpr (h rfl)
  | false => exact (WB_false (P := P) (R := R)).mpr (h' rfl)
theorem WB_cases' {p : Prop} [Decidable p] {P R : Prop} (h : p → P) (h' : ¬ p → R) : @WB (decide p) ⟨P, R⟩ := WB_cases (fun z => h (of_decide_eq_true z)) (fun z => h' (of_decide_eq_false z))
theorem WB_eq {b : Bool} {P R : Prop} : @WB b ⟨P, R⟩ = (match b with | true => P | false => R) := by
  cases b with
  | true => exact WB_true
  | false => exact WB_false
theorem WC_eq {c : Bool} {P : Prop} : @WC c ⟨P⟩ = (match c with | true => P | false => False) := by
  unfold WC
  cases c <;> simp
theorem WC_true {P : Prop} : @WC true ⟨P⟩ = P := propext ⟨fun h => h.2, fun h => ⟨rfl, h⟩⟩
theorem WC_mk {c : Bool} {P : Prop} (h : c = true) (q : P) : @WC c ⟨P⟩ := ⟨h, q⟩
theorem WC_dec {p : Prop} [Decidable p] {P : Prop} (h : p) (q : P) : @WC (decide p) ⟨P⟩ := ⟨decide_eq_true h, q⟩
theorem small_eq (n : Nat) : small n = decide (n ≤ 16777216) := rfl
theorem lessL_eq (n : Nat) : lessL n = decide (n < 16777216) := rfl

theorem W_rt {a : α} {Q : α → Env → Prop} : @W _ (rt a) e ⟨Q⟩ = Q a e := W_eq
theorem W_bd {m : M α} {f : α → M β} {Q : β → Env → Prop} : @W _ (bd m f) e ⟨Q⟩ = @W _ m e ⟨fun a e' => @W _ (f a) e' ⟨Q⟩⟩ := by
  simp only [W_eq, bd]
  cases m e <;> rfl
theorem W_no {Q : α → Env → Prop} : @W _ (fun _ => none) e ⟨Q⟩ = False := W_eq
end

/-- a slot set anew -/
def setO : Env → Nat → Sl → Option Env
  | [], _, _ => none
  | _ :: l, 0, x => some (x :: l)
  | a :: l, n + 1, x => (setO l n x).map (a :: ·)
theorem setO_ok : ∀ (e : Env) (i : Nat) (x : Sl), (if i < e.length then some (e.set i x) else none) = setO e i x
  | [], i, x => by simp [setO]
  | a :: l, 0, x => by simp [setO]
  | a :: l, n + 1, x => by
    rw [setO, ← setO_ok l n x]
    by_cases h : n < l.length
    · rw [if_pos h, if_pos (by rw [List.length_cons]; omega)]
      rfl
    · rw [if_neg h, if_neg (by rw [List.length_cons]; omega)]
      rfl
def frzO (e : Env) (i : Nat) : Option (D × Env) := frz (.bo i) e
theorem frzO_eq (e : Env) (i : Nat) : frzO e i = match e[i]? with
  | some (.im d) => some (d, e)
  | some (.ow d) => some (d, e.set i (.im d))
  | some (.io _ _) => none
  | some .em => none
  | none => none := by
  simp only [frzO, frz]
  cases h : e[i]? with
  | none => rfl
  | some sl => cases sl <;> rfl

section
variable {e : Env}
theorem W_gN_im {i : Nat} {d : D} {Q : Unit → Env → Prop} : @W _ (gN i (.im d)) e ⟨Q⟩ = @WO _ (setO e i (.im d)) ⟨fun e' => Q () e'⟩ := by
  rw [W_eq, WO_eq, ← setO_ok]
  unfold gN
  by_cases h : i < e.length
  · rw [if_pos h, if_pos h]
  · rw [if_neg h, if_neg h]
theorem W_gN_fr {i : Nat} {d : D} {Q : Unit → Env → Prop} : @W _ (gN i (.fr d)) e ⟨Q⟩ = @WO _ (setO e i (.ow d)) ⟨fun e' => Q () e'⟩ := by
  rw [W_eq, WO_eq, ← setO_ok]
  unfold gN
  by_cases h : i < e.length
  · rw [if_pos h, if_pos h]
  · rw [if_neg h, if_neg h]
theorem frz_len {v : Vl} {d : D} {e e' : Env} (h : frz v e = some (d, e')) : e'.length = e.length := by
  unfold frz at h
  split at h
  · cases h; rfl
  · cases h; rfl
  · split at h
    · cases h; rfl
    · cases h; simp
    · cases h
theorem W_gN_bo {i j : Nat} {Q : Unit → Env → Prop} : @W _ (gN i (.bo j)) e ⟨Q⟩ = @WO _ (frzO e j) ⟨fun p => @WO _ (setO p.2 i (.im p.1)) ⟨fun e' => Q () e'⟩⟩ := by
  rw [W_eq, WO_eq]
  have h0 : frz (.bo j) e = frzO e j := rfl
  unfold gN
  dsimp only
  rw [h0]
  cases h : frzO e j with
  | none =>
    by_cases h : i < e.length
    · rw [if_pos h]
    · rw [if_neg h]
  | some p =>
    have hl : p.2.length = e.length := frz_len (v := .bo j) (d := p.1) (h0.trans h)
    dsimp only
    rw [WO_eq, ← setO_ok, hl]
    by_cases h : i < e.length
    · rw [if_pos h, if_pos h]
    · rw [if_neg h, if_neg h]
theorem W_frz_im {d : D} {Q : D → Env → Prop} : @W _ (frz (.im d)) e ⟨Q⟩ = Q d e := W_eq
theorem W_frz_fr {d : D} {Q : D → Env → Prop} : @W _ (frz (.fr d)) e ⟨Q⟩ = Q d e := W_eq
theorem W_frz_bo {i : Nat} {Q : D → Env → Prop} : @W _ (frz (.bo i)) e ⟨Q⟩ = @WO _ (frzO e i) ⟨fun p => Q p.1 p.2⟩ := by
  simp only [W_eq, WO_eq, frzO]
  cases frz (.bo i) e <;> rfl
theorem W_frzs_nil {Q : List D → Env → Prop} : @W _ (frzs []) e ⟨Q⟩ = Q [] e := W_eq
theorem W_frzs_cons {v : Vl} {r : List Vl} {Q : List D → Env → Prop} : @W _ (frzs (v :: r)) e ⟨Q⟩ = @W _ (frz v) e ⟨fun d e1 => @W _ (frzs r) e1 ⟨fun ds e2 => Q (d :: ds) e2⟩⟩ := by
  show @W _ (bd (frz v) _) e ⟨Q⟩ = _
  simp only [W_eq, bd]
  cases frz v e with
  | none => rfl
  | some p =>
    dsimp only
    cases frzs r p.2 <;> rfl
theorem W_eC {d : D} {Q : Vl → Env → Prop} : @W _ (eC d) e ⟨Q⟩ = Q (.im d) e := W_eq
theorem W_eV {i : Nat} {Q : Vl → Env → Prop} : @W _ (eV i) e ⟨Q⟩ = @WO _ e[i]? ⟨fun sl => match sl with | .em => False | .im d => Q (.im d) e | .ow _ => Q (.bo i) e | .io _ _ => Q (.bo i) e⟩ := by
  rw [W_eq, WO_eq]
  unfold eV
  cases e[i]? with
  | none => rfl
  | some sl => cases sl <;> rfl
theorem W_cN {Q : List Vl → Env → Prop} : @W _ cN e ⟨Q⟩ = Q [] e := W_eq
theorem W_cA {m : M Vl} {ms : M (List Vl)} {Q : List Vl → Env → Prop} : @W _ (cA m ms) e ⟨Q⟩ = @W _ m e ⟨fun r e1 => @W _ ms e1 ⟨fun rs e2 => Q (r.hold :: rs) e2⟩⟩ := by
  unfold cA
  simp only [W_eq, bd]
  cases m e with
  | none => rfl
  | some p =>
    dsimp only
    cases ms p.2 <;> rfl
theorem W_eP {f : List D → Option Vl} {ms : M (List Vl)} {Q : Vl → Env → Prop} : @W _ (eP f ms) e ⟨Q⟩ = @W _ ms e ⟨fun rs e' => @WO _ (cnts e' rs) ⟨fun ds => @WO _ (f ds) ⟨fun v => match v with | .im d => Q (.im d) e' | .fr d => Q (.fr d) e' | .bo _ => False⟩⟩⟩ := by
  unfold eP
  simp only [W_eq, WO_eq, bd]
  cases ms e with
  | none => rfl
  | some p =>
    obtain ⟨rs, e1⟩ := p
    dsimp only
    cases cnts e1 rs with
    | none => rfl
    | some ds =>
      dsimp only
      cases f ds with
      | none => rfl
      | some v => cases v <;> rfl
theorem W_eM {T : String} {f : List D → Option Vl} {m : M Vl} {ms : M (List Vl)} {Q : Vl → Env → Prop} : @W _ (eM T f m ms) e ⟨Q⟩ = @W _ m e ⟨fun r e1 => @W _ (ckT T r.hold) e1 ⟨fun _ e2 => @W _ ms e2 ⟨fun rs e3 => @WO _ (cnts e3 (r.hold :: rs)) ⟨fun ds => @WO _ (f ds) ⟨fun v => match v with | .im d => Q (.im d) e3 | .fr d => Q (.fr d) e3 | .bo _ => False⟩⟩⟩⟩⟩ := by
  unfold eM
  simp only [W_eq, WO_eq, bd]
  cases m e with
  | none => rfl
  | some p =>
    obtain ⟨r, e1⟩ := p
    dsimp only
    cases ckT T r.hold e1 with
    | none => rfl
    | some q =>
      obtain ⟨q, e2⟩ := q
      dsimp only
      cases ms e2 with
      | none => rfl
      | some w =>
        obtain ⟨w, e3⟩ := w
        dsimp only
        cases cnts e3 (r.hold :: w) with
        | none => rfl
        | some ds =>
          dsimp only
          cases f ds with
          | none => rfl
          | some v => cases v <;> rfl
theorem W_ckT {T : String} {r : Vl} {Q : Unit → Env → Prop} : @W _ (ckT T r) e ⟨Q⟩ = @WO _ (cnt e r) ⟨fun d => @WC (tyT T d) ⟨Q () e⟩⟩ := by
  unfold ckT
  simp only [W_eq, WO_eq]
  cases cnt e r with
  | none => rfl
  | some d =>
    dsimp only
    unfold WC
    cases tyT T d <;> simp
def putO (e : Env) (i : Nat) (d : D) : Option Env := some (putC e i d)
theorem W_eU {T : String} {f : D → List D → Option (D × D)} {m : M Vl} {ms : M (List Vl)} {Q : Vl → Env → Prop} : @W _ (eU T f m ms) e ⟨Q⟩ =
    @W _ m e ⟨fun r e0 => match r with
      | .bo i => @W _ (ckT T (.bo i)) e0 ⟨fun _ e1 => @W _ ms e1 ⟨fun rs e2 => @W _ (frzs rs) e2 ⟨fun ds e3 => @WO _ (mutAtD e3 i) ⟨fun d0 => @WO _ (f d0 ds) ⟨fun p => @WO _ (putO e3 i p.1) ⟨fun e4 => Q (.im p.2) e4⟩⟩⟩⟩⟩⟩
      | .im _ => False
      | .fr _ => False⟩ := by
  unfold eU
  simp only [W_eq, WO_eq, bd]
  cases m e with
  | none => rfl
  | some p =>
    obtain ⟨r, e0⟩ := p
    cases r with
    | im d => rfl
    | fr d => rfl
    | bo i =>
      simp only [bd]
      cases ckT T (.bo i) e0 with
      | none => rfl
      | some q =>
        dsimp only
        cases ms q.2 with
        | none => rfl
        | some w =>
          dsimp only
          cases frzs w.1 w.2 with
          | none => rfl
          | some z =>
            dsimp only
            cases mutAtD z.2 i with
            | none => rfl
            | some d0 =>
              dsimp only
              cases f d0 z.1 with
              | none => rfl
              | some x => rfl
theorem W_eTup {ms : M (List Vl)} {Q : Vl → Env → Prop} : @W _ (eTup ms) e ⟨Q⟩ = @W _ ms e ⟨fun rs e1 => @W _ (frzs rs) e1 ⟨fun ds e2 => @WC (small ds.length) ⟨Q (.im (.tup ds)) e2⟩⟩⟩ := by
  unfold eTup
  simp only [W_eq, bd]
  cases ms e with
  | none => rfl
  | some p =>
    dsimp only
    cases frzs p.1 p.2 with
    | none => rfl
    | some q =>
      dsimp only
      unfold WC
      cases small q.1.length <;> simp [rt]
theorem W_eLst {ms : M (List Vl)} {Q : Vl → Env → Prop} : @W _ (eLst ms) e ⟨Q⟩ = @W _ ms e ⟨fun rs e1 => @W _ (frzs rs) e1 ⟨fun ds e2 => @WC (small ds.length) ⟨Q (.fr (.lst ds)) e2⟩⟩⟩ := by
  unfold eLst
  simp only [W_eq, bd]
  cases ms e with
  | none => rfl
  | some p =>
    dsimp only
    cases frzs p.1 p.2 with
    | none => rfl
    | some q =>
      dsimp only
      unfold WC
      cases small q.1.length <;> simp [rt]
theorem W_eDk {Q : Vl → Env → Prop} : @W _ eDk e ⟨Q⟩ = Q (.fr (.dk [])) e := W_eq
theorem W_eDt {Q : Vl → Env → Prop} : @W _ eDt e ⟨Q⟩ = Q (.fr (.dt [])) e := W_eq
theorem W_mB {m : M Vl} {Q : Bool → Env → Prop} : @W _ (mB m) e ⟨Q⟩ = @W _ m e ⟨fun r e' => match r with | .im (.bl b) => Q b e' | _ => False⟩ := by
  unfold mB
  simp only [W_eq, bd]
  cases m e with
  | none => rfl
  | some p =>
    obtain ⟨r, e1⟩ := p
    cases r with
    | im d => cases d <;> rfl
    | fr d => rfl
    | bo i => rfl
theorem W_mT {m : M Vl} {Q : Bool → Env → Prop} : @W _ (mT m) e ⟨Q⟩ = @W _ m e ⟨fun r e' => @WO _ (cnt e' r.hold) ⟨fun d => @WO _ (truD d) ⟨fun b => Q b e'⟩⟩⟩ := by
  unfold mT
  simp only [W_eq, WO_eq, bd]
  cases m e with
  | none => rfl
  | some p =>
    dsimp only
    cases cnt p.2 p.1.hold with
    | none => rfl
    | some d =>
      dsimp only
      cases truD d <;> rfl
theorem W_ite {α : Type} {b : Bool} {m n : Env → Option (α × Env)} {Q : α → Env → Prop} : @W _ (if b = true then m else n) e ⟨Q⟩ = @WB b ⟨@W _ m e ⟨Q⟩, @W _ n e ⟨Q⟩⟩ := by
  cases b with
  | true => rw [if_pos rfl, WB_true]
  | false => rw [if_neg Bool.false_ne_true, WB_false]
theorem W_mNot {m : M Bool} {Q : Bool → Env → Prop} : @W _ (mNot m) e ⟨Q⟩ = @W _ m e ⟨fun b e' => Q (!b) e'⟩ := by
  unfold mNot
  simp only [W_eq, bd]
  cases m e <;> rfl
theorem W_mAnd {m n : M Bool} {Q : Bool → Env → Prop} : @W _ (mAnd m n) e ⟨Q⟩ = @W _ m e ⟨fun b e' => @WB b ⟨@W _ n e' ⟨Q⟩, Q false e'⟩⟩ := by
  unfold mAnd
  simp only [W_eq, bd, WB_eq]
  cases m e with
  | none => rfl
  | some p =>
    obtain ⟨b, e1⟩ := p
    cases b <;> simp only [if_true, Bool.false_eq_true, if_false, rt, W_eq]
theorem W_mOr {m n : M Bool} {Q : Bool → Env → Prop} : @W _ (mOr m n) e ⟨Q⟩ = @W _ m e ⟨fun b e' => @WB b ⟨Q true e', @W _ n e' ⟨Q⟩⟩⟩ := by
  unfold mOr
  simp only [W_eq, bd, WB_eq]
  cases m e with
  | none => rfl
  | some p =>
    obtain ⟨b, e1⟩ := p
    cases b <;> simp only [if_true, Bool.false_eq_true, if_false, rt, W_eq]
theorem W_eNot {m : M Vl} {Q : Vl → Env → Prop} : @W _ (eNot m) e ⟨Q⟩ = @W _ (mB m) e ⟨fun b e' => Q (.im (.bl (!b))) e'⟩ := by
  unfold eNot
  simp only [W_eq, bd]
  cases mB m e <;> rfl
theorem W_eAnd {m n : M Vl} {Q : Vl → Env → Prop} : @W _ (eAnd m n) e ⟨Q⟩ = @W _ (mB m) e ⟨fun b e' => @WB b ⟨@W _ n e' ⟨Q⟩, Q (.im (.bl false)) e'⟩⟩ := by
  unfold eAnd
  simp only [W_eq, bd, WB_eq]
  cases mB m e with
  | none => rfl
  | some p =>
    obtain ⟨b, e1⟩ := p
    cases b <;> simp only [if_true, Bool.false_eq_true, if_false, rt, W_eq]
theorem W_eOr {m n : M Vl} {Q : Vl → Env → Prop} : @W _ (eOr m n) e ⟨Q⟩ = @W _ (mB m) e ⟨fun b e' => @WB b ⟨Q (.im (.bl true)) e', @W _ n e' ⟨Q⟩⟩⟩ := by
  unfold eOr
  simp only [W_eq, bd, WB_eq]
  cases mB m e with
  | none => rfl
  | some p =>
    obtain ⟨b, e1⟩ := p
    cases b <;> simp only [if_true, Bool.false_eq_true, if_false, rt, W_eq]
theorem W_eIf {c : M Bool} {m n : M Vl} {Q : Vl → Env → Prop} : @W _ (eIf c m n) e ⟨Q⟩ = @W _ c e ⟨fun b e' => @WB b ⟨@W _ m e' ⟨Q⟩, @W _ n e' ⟨Q⟩⟩⟩ := by
  unfold eIf
  simp only [W_eq, bd, WB_eq]
  cases c e with
  | none => rfl
  | some p =>
    obtain ⟨b, e1⟩ := p
    cases b <;> simp only [if_true, Bool.false_eq_true, if_false, W_eq]
theorem W_eTmp {m : M Vl} {Q : Vl → Env → Prop} : @W _ (eTmp m) e ⟨Q⟩ = @WO _ (some (e.map Sl.frz)) ⟨fun e0 => @W _ m e0 ⟨fun r _ => match r with | .im d => @WC d.atom ⟨Q (.im d) e⟩ | _ => False⟩⟩ := by
  unfold eTmp
  simp only [W_eq, WO_eq]
  cases m (e.map Sl.frz) with
  | none => rfl
  | some p =>
    obtain ⟨r, e'⟩ := p
    cases r with
    | im d =>
      dsimp only
      unfold WC
      cases d.atom <;> simp
    | fr d => rfl
    | bo i => rfl
theorem W_mTmp {m : M Bool} {Q : Bool → Env → Prop} : @W _ (mTmp m) e ⟨Q⟩ = @WO _ (some (e.map Sl.frz)) ⟨fun e0 => @W _ m e0 ⟨fun b _ => Q b e⟩⟩ := by
  unfold mTmp
  simp only [W_eq, WO_eq]
  cases m (e.map Sl.frz) with
  | none => rfl
  | some p => rfl
theorem W_oN {Q : Option Int → Env → Prop} : @W _ oN e ⟨Q⟩ = Q none e := W_eq
theorem W_oS {m : M Vl} {Q : Option Int → Env → Prop} : @W _ (oS m) e ⟨Q⟩ = @W _ m e ⟨fun r e' => match r with | .im (.int i) => Q (some i) e' | _ => False⟩ := by
  unfold oS
  simp only [W_eq, bd]
  cases m e with
  | none => rfl
  | some p =>
    obtain ⟨r, e1⟩ := p
    cases r with
    | im d => cases d <;> rfl
    | fr d => rfl
    | bo i => rfl
theorem W_eSl {ma : M Vl} {lo hi : M (Option Int)} {Q : Vl → Env → Prop} : @W _ (eSl ma lo hi) e ⟨Q⟩ = @W _ ma e ⟨fun r e1 => @W _ lo e1 ⟨fun l e2 => @W _ hi e2 ⟨fun h e3 => @WO _ (cnt e3 r.hold) ⟨fun d => @WO _ (slD l h d) ⟨fun v => match v with | .im d => Q (.im d) e3 | .fr d => Q (.fr d) e3 | .bo _ => False⟩⟩⟩⟩⟩ := by
  unfold eSl
  simp only [W_eq, WO_eq, bd]
  cases ma e with
  | none => rfl
  | some p =>
    dsimp only
    cases lo p.2 with
    | none => rfl
    | some l =>
      dsimp only
      cases hi l.2 with
      | none => rfl
      | some h =>
        dsimp only
        cases cnt h.2 p.1.hold with
        | none => rfl
        | some d =>
          dsimp only
          cases slD l.1 h.1 d with
          | none => rfl
          | some v => cases v <;> rfl
theorem W_eChain {f h : List D → Option Vl} {ma mb mc : M Vl} {Q : Vl → Env → Prop} : @W _ (eChain f h ma mb mc) e ⟨Q⟩ =
    @W _ ma e ⟨fun ra e1 => @W _ mb e1 ⟨fun rb e2 => @WO _ (cnt e2 ra.hold) ⟨fun da => @WO _ (cnt e2 rb.hold) ⟨fun db => @WO _ (f [da, db]) ⟨fun v => match v with
      | .im (.bl b) => @WB b ⟨@W _ mc e2 ⟨fun rc e3 => @WO _ (cnt e3 rb.hold) ⟨fun db' => @WO _ (cnt e3 rc.hold) ⟨fun dc => @WO _ (h [db', dc]) ⟨fun v => match v with | .im d => Q (.im d) e3 | _ => False⟩⟩⟩⟩, Q (.im (.bl false)) e2⟩
      | _ => False⟩⟩⟩⟩⟩ := by
  unfold eChain
  simp only [W_eq, WO_eq, bd]
  cases ma e with
  | none => rfl
  | some p =>
    dsimp only
    cases mb p.2 with
    | none => rfl
    | some q =>
      dsimp only
      cases cnt q.2 p.1.hold with
      | none => rfl
      | some da =>
        cases cnt q.2 q.1.hold with
        | none => rfl
        | some db =>
          dsimp only
          cases f [da, db] with
          | none => rfl
          | some v =>
            cases v with
            | fr d => rfl
            | bo i => rfl
            | im d =>
              cases d with
              | bl b =>
                cases b with
                | false =>
                  simp only [WB_eq]
                | true =>
                  simp only [WB_eq, W_eq, WO_eq, bd]
                  cases mc q.2 with
                  | none => rfl
                  | some w =>
                    dsimp only
                    cases cnt w.2 q.1.hold with
                    | none => rfl
                    | some db' =>
                      cases cnt w.2 w.1.hold with
                      | none => rfl
                      | some dc =>
                        dsimp only
                        cases h [db', dc] with
                        | none => rfl
                        | some v => cases v <;> rfl
              | _ => rfl
/-! ### statements -/
theorem W_sNil {Q : Fl → Env → Prop} : @W _ sNil e ⟨Q⟩ = Q .nx e := W_eq
theorem W_sPass {Q : Fl → Env → Prop} : @W _ sPass e ⟨Q⟩ = Q .nx e := W_eq
theorem W_sBrk {Q : Fl → Env → Prop} : @W _ sBrk e ⟨Q⟩ = Q .bk e := W_eq
theorem W_sCnt {Q : Fl → Env → Prop} : @W _ sCnt e ⟨Q⟩ = Q .ct e := W_eq
theorem W_sRetN {Q : Fl → Env → Prop} : @W _ sRetN e ⟨Q⟩ = Q (.rt (.im .non)) e := W_eq
theorem W_sSeq {m n : SM} {Q : Fl → Env → Prop} : @W _ (sSeq m n) e ⟨Q⟩ = @W _ m e ⟨fun fl e' => match fl with | .nx => @W _ n e' ⟨Q⟩ | .bk => Q .bk e' | .ct => Q .ct e' | .rt r => Q (.rt r) e'⟩ := by
  unfold sSeq
  simp only [W_eq]
  cases m e with
  | none => rfl
  | some p =>
    obtain ⟨fl, e'⟩ := p
    cases fl <;> rfl
theorem W_sExp {m : M Vl} {Q : Fl → Env → Prop} : @W _ (sExp m) e ⟨Q⟩ = @W _ m e ⟨fun _ e' => Q .nx e'⟩ := by
  unfold sExp
  simp only [W_eq]
  cases m e <;> rfl
theorem W_sRet {m : M Vl} {Q : Fl → Env → Prop} : @W _ (sRet m) e ⟨Q⟩ = @W _ m e ⟨fun r e' => Q (.rt r) e'⟩ := by
  unfold sRet
  simp only [W_eq]
  cases m e <;> rfl
theorem W_sIf {c : M Bool} {m n : SM} {Q : Fl → Env → Prop} : @W _ (sIf c m n) e ⟨Q⟩ = @W _ c e ⟨fun b e' => @WB b ⟨@W _ m e' ⟨Q⟩, @W _ n e' ⟨Q⟩⟩⟩ := by
  unfold sIf
  simp only [W_eq, WB_eq]
  cases c e with
  | none => rfl
  | some p =>
    obtain ⟨b, e1⟩ := p
    cases b <;> simp only [if_true, Bool.false_eq_true, if_false, W_eq]
theorem W_sAsg {m : M Vl} {g : Vl → M Unit} {Q : Fl → Env → Prop} : @W _ (sAsg m g) e ⟨Q⟩ = @W _ m e ⟨fun r e1 => @W _ (g r) e1 ⟨fun _ e2 => Q .nx e2⟩⟩ := by
  unfold sAsg
  simp only [W_eq]
  cases m e with
  | none => rfl
  | some p =>
    dsimp only
    cases g p.1 p.2 <;> rfl
theorem W_gsN {Q : Unit → Env → Prop} : @W _ (gsN []) e ⟨Q⟩ = Q () e := W_eq
theorem W_gsC {g : Vl → M Unit} {gs : List D → M Unit} {d : D} {r : List D} {Q : Unit → Env → Prop} : @W _ (gsC g gs (d :: r)) e ⟨Q⟩ = @W _ (g (.im d)) e ⟨fun _ e1 => @W _ (gs r) e1 ⟨Q⟩⟩ := by
  unfold gsC
  simp only [W_eq]
  cases g (.im d) e <;> rfl
theorem W_gT {n : Nat} {gs : List D → M Unit} {ds : List D} {Q : Unit → Env → Prop} : @W _ (gT n gs (.im (.tup ds))) e ⟨Q⟩ = @WC (decide (ds.length = n)) ⟨@W _ (gs ds) e ⟨Q⟩⟩ := by
  unfold gT WC
  simp only [W_eq]
  by_cases h : ds.length = n <;> simp [h]
theorem W_gS {f : D → D → D → Option D} {m mi : M Vl} {r : Vl} {Q : Unit → Env → Prop} : @W _ (gS f m mi r) e ⟨Q⟩ =
    @W _ (frz r.hold) e ⟨fun d e0 => @W _ m e0 ⟨fun r0 e1 => match r0 with
      | .bo i => @W _ mi e1 ⟨fun r1 e2 => @WO _ (mutAtD e2 i) ⟨fun d0 => @WO _ (cnt e2 r1.hold) ⟨fun k => @WO _ (f d0 k d) ⟨fun d' => @WO _ (putO e2 i d') ⟨fun e3 => Q () e3⟩⟩⟩⟩⟩
      | .im _ => False
      | .fr _ => False⟩⟩ := by
  unfold gS
  simp only [W_eq, WO_eq, bd]
  cases frz r.hold e with
  | none => rfl
  | some p =>
    dsimp only
    cases m p.2 with
    | none => rfl
    | some q =>
      obtain ⟨r0, e1⟩ := q
      cases r0 with
      | im d => rfl
      | fr d => rfl
      | bo i =>
        simp only [bd]
        cases mi e1 with
        | none => rfl
        | some w =>
          dsimp only
          cases mutAtD w.2 i with
          | none => rfl
          | some d0 =>
            cases cnt w.2 w.1.hold with
            | none => rfl
            | some k =>
              dsimp only
              cases f d0 k p.1 <;> rfl
theorem W_hb_im {d : D} {Q : Vl → Env → Prop} : @W _ (hb (.im d)) e ⟨Q⟩ = Q (.im d) e := W_eq
theorem W_hb_fr {d : D} {Q : Vl → Env → Prop} : @W _ (hb (.fr d)) e ⟨Q⟩ = Q (.fr d) e := W_eq
theorem W_hb_bo {i : Nat} {Q : Vl → Env → Prop} : @W _ (hb (.bo i)) e ⟨Q⟩ = @W _ (frz (.bo i)) e ⟨fun d e' => Q (.im d) e'⟩ := by
  show @W _ (bd (frz (.bo i)) fun d => rt (.im d)) e ⟨Q⟩ = _
  simp only [W_eq, bd]
  cases frz (.bo i) e <;> rfl
theorem W_sPF {i j : Nat} {m n : M Vl} {Q : Fl → Env → Prop} : @W _ (sPF i j m n) e ⟨Q⟩ = @W _ m e ⟨fun r e0 => @W _ (hb r) e0 ⟨fun r1 e1 => @W _ n e1 ⟨fun s e2 => @W _ (hb s) e2 ⟨fun r2 e3 => @W _ (gN j r2) e3 ⟨fun _ e4 => @W _ (gN i r1) e4 ⟨fun _ e5 => Q .nx e5⟩⟩⟩⟩⟩⟩ := by
  unfold sPF
  simp only [W_eq, bd]
  cases m e with
  | none => rfl
  | some p =>
    dsimp only
    cases hb p.1 p.2 with
    | none => rfl
    | some q =>
      dsimp only
      cases n q.2 with
      | none => rfl
      | some w =>
        dsimp only
        cases hb w.1 w.2 with
        | none => rfl
        | some z =>
          dsimp only
          cases gN j z.1 z.2 with
          | none => rfl
          | some y =>
            dsimp only
            cases gN i q.1 y.2 <;> rfl
theorem W_sPF3 {i j l : Nat} {m n o : M Vl} {Q : Fl → Env → Prop} : @W _ (sPF3 i j l m n o) e ⟨Q⟩ = @W _ m e ⟨fun r e0 => @W _ (hb r) e0 ⟨fun r1 e1 => @W _ n e1 ⟨fun s e2 => @W _ (hb s) e2 ⟨fun r2 e3 => @W _ o e3 ⟨fun t f0 => @W _ (hb t) f0 ⟨fun r3 f1 => @W _ (gN l r3) f1 ⟨fun _ f2 => @W _ (gN j r2) f2 ⟨fun _ e4 => @W _ (gN i r1) e4 ⟨fun _ e5 => Q .nx e5⟩⟩⟩⟩⟩⟩⟩⟩⟩ := by
  unfold sPF3
  simp only [W_eq, bd]
  cases m e with
  | none => rfl
  | some p =>
    dsimp only
    cases hb p.1 p.2 with
    | none => rfl
    | some q =>
      dsimp only
      cases n q.2 with
      | none => rfl
      | some w =>
        dsimp only
        cases hb w.1 w.2 with
        | none => rfl
        | some z =>
          dsimp only
          cases o z.2 with
          | none => rfl
          | some a =>
            dsimp only
            cases hb a.1 a.2 with
            | none => rfl
            | some b =>
              dsimp only
              cases gN l b.1 b.2 with
              | none => rfl
              | some c =>
                dsimp only
                cases gN j z.1 c.2 with
                | none => rfl
                | some y =>
                  dsimp only
                  cases gN i q.1 y.2 <;> rfl
end
end PD
namespace PD
open PySem PySem.Spec PyProof.Rows L2
/-! ### calls: borrowed things are frozen first (F), or held as they are (N) -/
def eCallF (F : Fs) (ms : M (List Vl)) : M Vl := bd ms fun rs => bd (frzA F.sig rs) (callE F)
def eCallN (F : Fs) (ms : M (List Vl)) : M Vl := bd ms (callE F)
section
variable {K : PySem.W.Frag} {A : Anc}
theorem sx_callF {F : Fs} {t : TA} {ms : M (List Vl)} (h : SAX K A t ms) : SEX K A (tCall (spF K F) [] E0 t) (eCallF F ms) := fun σ τ B H env pe env' r Q S hl e q => by
  obtain ⟨rs, e1, he, e⟩ := bd_inv e
  refine h σ τ B H env pe e1 rs _ S hl he fun B1 H1 vs s1 hl1 S1 hr => ?_
  show spF K F (vs ++ []) H1 Q E0
  rw [List.append_nil]
  obtain ⟨rs2, e2, h2, e⟩ := bd_inv e
  obtain ⟨B2, s2, S2, hl2, p2⟩ := frzA_ok S1 hl1 hr h2
  exact callE_ok S2 hl2 p2 e Q (fun B3 H3 v s3 => q B3 H3 v ((s1.trans s2).trans s3)) _
theorem sx_callN {F : Fs} {t : TA} {ms : M (List Vl)} (h : SAX K A t ms) : SEX K A (tCall (spF K F) [] E0 t) (eCallN F ms) := fun σ τ B H env pe env' r Q S hl e q => by
  obtain ⟨rs, e1, he, e⟩ := bd_inv e
  refine h σ τ B H env pe e1 rs _ S hl he fun B1 H1 vs s1 hl1 S1 hr => ?_
  show spF K F (vs ++ []) H1 Q E0
  rw [List.append_nil]
  exact callE_ok S1 hl1 hr e Q (fun B2 H2 v s2 => q B2 H2 v (s1.trans s2)) _
end
section
variable {g : G0} {c : Ct} {e : Expr} {es : List Expr} {pos p : Pos} {ms : M (List Vl)}
theorem ee_callX {x : Str} {k : Nat} {F : Fs} {m' : M Vl} (hs : ∀ A t, SAX g.K A t ms → SEX g.K A (tCall (spF g.K F) [] E0 t) m') (hF : FnI g x k F) (hk : k ≤ c.k) (hg : GlC c x) (h : EA g c (e :: es) ms) (pl : Pl e) (hpl : ∀ env : PySem.Env, (backTo pos (starEach es env)).any (·.1) = false) (hdb : (x == ("__debug__" : Str)) = false) :
    EE g c (.Call (.Name x p) (e :: es) [] pos) m' := by
  obtain ⟨f, fd, ps, f1, f2, f3, f4⟩ := hF.ex
  obtain ⟨t, h1, h2⟩ := h
  refine ⟨tCall (spF g.K F) [] E0 t, fun X hX => ⟨fun pins s σ H Q I hq => ?_⟩, fun A => hs A t (h2 A)⟩
  refine wpAny_Call_Name_kw (ld_glob I (gl_of hX hg) (by rw [hX.em]; exact f1) ?_ hdb)
  have hkp : PySem.W.keepIn X.K (.ref f) = true := by rw [hX.eK]; exact f2
  refine PySem.W.callWith_K (h₀ := X.base) I.ok.mod.kin hkp (thn ((h1 X hX).run pos pins s σ H _ I hq) fun us s1 ⟨vs, H1, I1, r, q⟩ => ⟨I1.kIn, ?_⟩) (pl es X.env) (hpl X.env)
  refine runG hX f4 hk f3 I1 r ?_
  have q : spF g.K F (vs ++ []) H1 Q E0 := q
  rwa [List.append_nil] at q
theorem ee_callF {x : Str} {k : Nat} {F : Fs} (hF : FnI g x k F) (hk : k ≤ c.k) (hg : GlC c x) (h : EA g c (e :: es) ms) (pl : Pl e) (hpl : ∀ env : PySem.Env, (backTo pos (starEach es env)).any (·.1) = false) (hdb : (x == ("__debug__" : Str)) = false) :
    EE g c (.Call (.Name x p) (e :: es) [] pos) (eCallF F ms) := ee_callX (fun A t h => sx_callF h) hF hk hg h pl hpl hdb
theorem ee_callN {x : Str} {k : Nat} {F : Fs} (hF : FnI g x k F) (hk : k ≤ c.k) (hg : GlC c x) (h : EA g c (e :: es) ms) (pl : Pl e) (hpl : ∀ env : PySem.Env, (backTo pos (starEach es env)).any (·.1) = false) (hdb : (x == ("__debug__" : Str)) = false) :
    EE g c (.Call (.Name x p) (e :: es) [] pos) (eCallN F ms) := ee_callX (fun A t h => sx_callN h) hF hk hg h pl hpl hdb
end

section
variable {e : Env}
theorem W_frzA_nil {sig : List Bool} {Q : List Vl → Env → Prop} : @W _ (frzA sig []) e ⟨Q⟩ = Q [] e := by
  cases sig with
  | nil => exact W_eq
  | cons b bs => cases b <;> exact W_eq
theorem W_frzA_t {sig : List Bool} {v : Vl} {rs : List Vl} {Q : List Vl → Env → Prop} : @W _ (frzA (true :: sig) (v :: rs)) e ⟨Q⟩ = @W _ (frzA sig rs) e ⟨fun r e' => Q (v :: r) e'⟩ := by
  show @W _ (bd (frzA sig rs) fun r => rt (v :: r)) e ⟨Q⟩ = _
  simp only [W_eq, bd]
  cases frzA sig rs e <;> rfl
theorem W_frzA_im {sig : List Bool} {d : D} {rs : List Vl} {Q : List Vl → Env → Prop} : @W _ (frzA (false :: sig) (.im d :: rs)) e ⟨Q⟩ = @W _ (frzA sig rs) e ⟨fun r e' => Q (.im d :: r) e'⟩ := by
  show @W _ (bd (frzA sig rs) fun r => rt (.im d :: r)) e ⟨Q⟩ = _
  simp only [W_eq, bd]
  cases frzA sig rs e <;> rfl
theorem W_frzA_bo {sig : List Bool} {i : Nat} {rs : List Vl} {Q : List Vl → Env → Prop} : @W _ (frzA (false :: sig) (.bo i :: rs)) e ⟨Q⟩ = @WO _ (frzO e i) ⟨fun p => @W _ (frzA sig rs) p.2 ⟨fun r e' => Q (.im p.1 :: r) e'⟩⟩ := by
  show @W _ (bd (frz (.bo i)) fun d => bd (frzA sig rs) fun r => rt (.im d :: r)) e ⟨Q⟩ = _
  simp only [W_eq, WO_eq, bd, frzO]
  cases frz (.bo i) e with
  | none => rfl
  | some p =>
    dsimp only
    cases frzA sig rs p.2 <;> rfl
theorem W_callE {F : Fs} {rs : List Vl} {Q : Vl → Env → Prop} : @W _ (callE F rs) e ⟨Q⟩ = @WO _ (cnts e rs) ⟨fun ds => @WC (ioAll e F.sig rs && decide (ioIx F.sig rs).Nodup && disj (ioIx F.sig rs) (brIx e F.sig rs)) ⟨@WO _ (F.sem ds) ⟨fun p =>
    @WC ((brIx e F.sig rs).isEmpty || (p.1.nm && nmOut F.sig p.2)) ⟨@WO _ (some (updE F.sig rs p.2 e)) ⟨fun e' => Q p.1 e'⟩⟩⟩⟩⟩ := by
  unfold callE
  simp only [W_eq, WO_eq, WC_eq]
  cases cnts e rs with
  | none => rfl
  | some ds =>
    dsimp only
    cases (ioAll e F.sig rs && decide (ioIx F.sig rs).Nodup && disj (ioIx F.sig rs) (brIx e F.sig rs)) with
    | false => rfl
    | true =>
      rw [if_pos rfl]
      dsimp only
      try rw [WO_eq]
      cases F.sem ds with
      | none => rfl
      | some p =>
        obtain ⟨r, ds'⟩ := p
        dsimp only
        try rw [WC_eq]
        cases ((brIx e F.sig rs).isEmpty || (r.nm && nmOut F.sig ds')) with
        | false => rfl
        | true =>
          rw [if_pos rfl]
          try rw [WO_eq]
theorem W_eCallN {F : Fs} {ms : M (List Vl)} {Q : Vl → Env → Prop} : @W _ (eCallN F ms) e ⟨Q⟩ = @W _ ms e ⟨fun rs e' => @W _ (callE F rs) e' ⟨Q⟩⟩ := W_bd
theorem W_eCallF {F : Fs} {ms : M (List Vl)} {Q : Vl → Env → Prop} : @W _ (eCallF F ms) e ⟨Q⟩ = @W _ ms e ⟨fun rs e' => @W _ (frzA F.sig rs) e' ⟨fun rs' e2 => @W _ (callE F rs') e2 ⟨Q⟩⟩⟩ := by
  unfold eCallF
  simp only [W_eq, bd]
  cases ms e with
  | none => rfl
  | some p =>
    dsimp only
    cases frzA F.sig p.1 p.2 with
    | none => rfl
    | some q =>
      dsimp only
theorem WO_runF {sig : List Bool} {n : Nat} {body : SM} {ds : List D} {K : Vl × List D → Prop} : @WO _ (runF sig n body ds) ⟨K⟩ = @WC (decide (ds.length = sig.length)) ⟨@WO _ (some (mkE 0 sig ds ++ List.replicate (n - ds.length) .em)) ⟨fun e0 => @W _ body e0 ⟨fun fl e1 => match fl with
    | .nx => @WO _ (outE sig 0 e1 ds) ⟨fun o => K (.im .non, o)⟩
    | .rt r => @WO _ (retV e1 r) ⟨fun r' => @WO _ (outE sig 0 e1 ds) ⟨fun o => K (r', o)⟩⟩
    | .bk => False
    | .ct => False⟩⟩⟩ := by
  unfold runF
  by_cases h : ds.length = sig.length
  · rw [if_pos h]
    simp only [W_eq, WO_eq, WC_eq, h, decide_true]
    cases body (mkE 0 sig ds ++ List.replicate (n - sig.length) Sl.em) with
    | none => rfl
    | some p =>
      obtain ⟨fl, e1⟩ := p
      cases fl with
      | nx =>
        dsimp only
        try rw [WO_eq]
        cases outE sig 0 e1 ds <;> rfl
      | bk => rfl
      | ct => rfl
      | rt r =>
        dsimp only
        try rw [WO_eq]
        cases retV e1 r with
        | none => rfl
        | some r' =>
          dsimp only
          try rw [WO_eq]
          cases outE sig 0 e1 ds <;> rfl
  · rw [if_neg h]
    simp only [WO_eq, WC_eq, h, decide_false]
/-! ### what is walked -/
def rg1 : List D → Option (List D)
  | [.int j] => if in62 j = true then some (rngD 0 j.toNat) else none
  | _ => none
def rg2 : List D → Option (List D)
  | [.int i, .int j] => if (in62 i && in62 j) = true then some (rngD i (j - i).toNat) else none
  | _ => none
theorem W_mR1 {ms : M (List Vl)} {Q : List D → Env → Prop} : @W _ (mR1 ms) e ⟨Q⟩ = @W _ ms e ⟨fun rs e' => @WO _ (cnts e' rs) ⟨fun ds => @WO _ (rg1 ds) ⟨fun l => Q l e'⟩⟩⟩ := by
  unfold mR1
  simp only [W_eq, WO_eq, bd]
  cases ms e with
  | none => rfl
  | some p =>
    dsimp only
    try rw [WO_eq]
    cases cnts p.2 p.1 with
    | none => rfl
    | some ds =>
      dsimp only
      try rw [WO_eq]
      unfold rg1
      split
      · rename_i j h
        split at h
        · rename_i j' hj
          cases hj
          split at h
          · rename_i hh
            cases h
            simp only [hh, if_true]
          · cases h
        · cases h
      · rename_i h
        split at h
        · rename_i j' hj
          cases hj
          split at h
          · cases h
          · rename_i hh
            simp only [hh, if_false]
            rfl
        · rename_i hj
          split
          · rename_i z hz
            split at hz
            · rename_i q
              exact absurd rfl (hj _)
            · cases hz
          · rfl
theorem W_mR2 {ms : M (List Vl)} {Q : List D → Env → Prop} : @W _ (mR2 ms) e ⟨Q⟩ = @W _ ms e ⟨fun rs e' => @WO _ (cnts e' rs) ⟨fun ds => @WO _ (rg2 ds) ⟨fun l => Q l e'⟩⟩⟩ := by
  unfold mR2
  simp only [W_eq, WO_eq, bd]
  cases ms e with
  | none => rfl
  | some p =>
    dsimp only
    try rw [WO_eq]
    cases cnts p.2 p.1 with
    | none => rfl
    | some ds =>
      dsimp only
      try rw [WO_eq]
      unfold rg2
      split
      · rename_i j h
        split at h
        · rename_i j' hj
          cases hj
          split at h
          · rename_i hh
            cases h
            simp only [hh, if_true]
          · cases h
        · cases h
      · rename_i h
        split at h
        · rename_i j' hj
          cases hj
          split at h
          · cases h
          · rename_i hh
            simp only [hh, if_false]
            rfl
        · rename_i hj
          split
          · rename_i z hz
            split at hz
            · rename_i q
              exact absurd rfl (hj _ _)
            · cases hz
          · rfl
def seqL : D → Option (List D)
  | .lst ds => some ds
  | _ => none
def seqT : D → Option (List D)
  | .tup ds => some ds
  | .tp ds => some ds
  | _ => none
theorem W_mLst {m : M Vl} {Q : List D → Env → Prop} : @W _ (mLst m) e ⟨Q⟩ = @W _ m e ⟨fun r e1 => @W _ (frz r.hold) e1 ⟨fun d e2 => @WO _ (seqL d) ⟨fun l => Q l e2⟩⟩⟩ := by
  unfold mLst
  simp only [W_eq, WO_eq, bd]
  cases m e with
  | none => rfl
  | some p =>
    dsimp only
    try rw [W_eq]
    cases frz p.1.hold p.2 with
    | none => rfl
    | some q =>
      obtain ⟨d, e2⟩ := q
      dsimp only
      try rw [WO_eq]
      cases d <;> rfl
theorem W_mTup {m : M Vl} {Q : List D → Env → Prop} : @W _ (mTup m) e ⟨Q⟩ = @W _ m e ⟨fun r e1 => @W _ (frz r.hold) e1 ⟨fun d e2 => @WO _ (seqT d) ⟨fun l => Q l e2⟩⟩⟩ := by
  unfold mTup
  simp only [W_eq, WO_eq, bd]
  cases m e with
  | none => rfl
  | some p =>
    dsimp only
    try rw [W_eq]
    cases frz p.1.hold p.2 with
    | none => rfl
    | some q =>
      obtain ⟨d, e2⟩ := q
      dsimp only
      try rw [WO_eq]
      cases d <;> rfl
theorem W_mEnum {m : M Vl} {Q : List D → Env → Prop} : @W _ (mEnum m) e ⟨Q⟩ = @W _ m e ⟨fun r e1 => @W _ (frz r.hold) e1 ⟨fun d e2 => @WO _ (seqL d) ⟨fun l => Q (enumD 0 l) e2⟩⟩⟩ := by
  unfold mEnum
  simp only [W_eq, WO_eq, bd]
  cases m e with
  | none => rfl
  | some p =>
    dsimp only
    try rw [W_eq]
    cases frz p.1.hold p.2 with
    | none => rfl
    | some q =>
      obtain ⟨d, e2⟩ := q
      dsimp only
      try rw [WO_eq]
      cases d <;> rfl
theorem W_mStr {m : M Vl} {Q : List D → Env → Prop} : @W _ (mStr m) e ⟨Q⟩ = @W _ m e ⟨fun r e1 => match r with | .im (.str x) => Q (chD x) e1 | _ => False⟩ := by
  unfold mStr
  simp only [W_eq, bd]
  cases m e with
  | none => rfl
  | some p =>
    obtain ⟨r, e1⟩ := p
    cases r with
    | im d => cases d <;> rfl
    | fr d => rfl
    | bo i => rfl
def zipO : List D → Option (List D)
  | [.lst a, .lst b] => some (zipD a b)
  | [.tup a, .tup b] => some (zipD a b)
  | [.tp a, .tp b] => some (zipD a b)
  | [.tp a, .tup b] => some (zipD a b)
  | [.tup a, .tp b] => some (zipD a b)
  | _ => none
theorem W_mZip {ms : M (List Vl)} {Q : List D → Env → Prop} : @W _ (mZip ms) e ⟨Q⟩ = @W _ ms e ⟨fun rs e1 => @W _ (frzs rs) e1 ⟨fun ds e2 => @WO _ (zipO ds) ⟨fun l => Q l e2⟩⟩⟩ := by
  unfold mZip
  simp only [W_eq, WO_eq, bd]
  cases ms e with
  | none => rfl
  | some p =>
    dsimp only
    try rw [W_eq]
    cases frzs p.1 p.2 with
    | none => rfl
    | some q =>
      obtain ⟨ds, e2⟩ := q
      dsimp only
      try rw [WO_eq]
      match ds with
      | [] => rfl
      | [d] => cases d <;> rfl
      | [d, d'] => cases d <;> cases d' <;> rfl
      | d :: d' :: _ :: _ => cases d <;> cases d' <;> rfl
/-! ### loops -/
theorem W_sFor {mi : M (List D)} {g : Vl → M Unit} {b : SM} {Q : Fl → Env → Prop} : @W _ (sFor mi g b) e ⟨Q⟩ = @W _ mi e ⟨fun ds e1 => @W _ (forL g b ds) e1 ⟨Q⟩⟩ := by
  unfold sFor
  simp only [W_eq]
  cases mi e with
  | none => rfl
  | some p => rfl
theorem W_sWhl {n : Nat} {c : M Bool} {b : SM} {Q : Fl → Env → Prop} : @W _ (sWhl n c b) e ⟨Q⟩ = @W _ (whlL c b n) e ⟨Q⟩ := rfl
def goesOn (P : Env → Prop) (Q : Fl → Env → Prop) : Fl → Env → Prop
  | .nx, e => P e
  | .ct, e => P e
  | .bk, e => Q .nx e
  | .rt v, e => Q (.rt v) e
theorem goes_nx {P : Env → Prop} {Q : Fl → Env → Prop} {e : Env} : goesOn P Q .nx e = P e := rfl
theorem goes_ct {P : Env → Prop} {Q : Fl → Env → Prop} {e : Env} : goesOn P Q .ct e = P e := rfl
theorem goes_bk {P : Env → Prop} {Q : Fl → Env → Prop} {e : Env} : goesOn P Q .bk e = Q .nx e := rfl
theorem goes_rt {P : Env → Prop} {Q : Fl → Env → Prop} {v : Vl} {e : Env} : goesOn P Q (.rt v) e = Q (.rt v) e := rfl
theorem W_for_at {g : Vl → M Unit} {b : SM} {Q : Fl → Env → Prop} {P : Nat → Env → Prop} : ∀ {ds : List D} {k : Nat} {e : Env}, P k e →
    (∀ i d e, ds[i]? = some d → P (k + i) e → @W _ (g (.im d)) e ⟨fun _ e1 => @W _ b e1 ⟨goesOn (P (k + i + 1)) Q⟩⟩) →
    (∀ e, P (k + ds.length) e → Q .nx e) → @W _ (forL g b ds) e ⟨Q⟩
  | [], k, e, p, _, q => ⟨_, _, rfl, q e p⟩
  | d :: ds, k, e, p, h, q => by
    obtain ⟨_, e1, h1, fl, e2, h2, h3⟩ := h 0 d e rfl p
    have next : P (k + 1) e2 → @W _ (forL g b ds) e2 ⟨Q⟩ := fun p' => W_for_at (k := k + 1) p' (fun i d e hd hp => by
      have := h (i + 1) d e hd (by rw [show k + (i + 1) = k + 1 + i by omega]; exact hp)
      rwa [show k + (i + 1) + 1 = k + 1 + i + 1 by omega] at this) fun e hp => q e (by rw [List.length_cons, show k + (ds.length + 1) = k + 1 + ds.length by omega]; exact hp)
    have e0 : forL g b (d :: ds) e = match fl with
      | .nx => forL g b ds e2
      | .ct => forL g b ds e2
      | .bk => some (.nx, e2)
      | .rt v => some (.rt v, e2) := by
      rw [forL]
      simp only [h1, h2]
      cases fl <;> rfl
    cases fl with
    | nx =>
      obtain ⟨fl, e3, h4, h5⟩ := next h3
      exact ⟨fl, e3, e0.trans h4, h5⟩
    | ct =>
      obtain ⟨fl, e3, h4, h5⟩ := next h3
      exact ⟨fl, e3, e0.trans h4, h5⟩
    | bk => exact ⟨_, _, e0, h3⟩
    | rt v => exact ⟨_, _, e0, h3⟩
theorem W_for (P : Nat → Env → Prop) {g : Vl → M Unit} {b : SM} {Q : Fl → Env → Prop} {ds : List D} (h0 : P 0 e)
    (hs : ∀ i d e, ds[i]? = some d → P i e → @W _ (g (.im d)) e ⟨fun _ e1 => @W _ b e1 ⟨goesOn (P (i + 1)) Q⟩⟩)
    (hq : ∀ e, P ds.length e → Q .nx e) : @W _ (forL g b ds) e ⟨Q⟩ :=
  W_for_at (P := P) (k := 0) h0 (fun i d e hd hp => by
    rw [Nat.zero_add] at hp ⊢
    exact hs i d e hd hp) fun e hp => hq e (by rwa [Nat.zero_add] at hp)
theorem W_whl (P : Nat → Env → Prop) {c : M Bool} {b : SM} {Q : Fl → Env → Prop}
    (hs : ∀ m e, P m e → @W _ c e ⟨fun t e1 => @WB t ⟨@W _ b e1 ⟨goesOn (fun e2 => ∃ m', m' < m ∧ P m' e2) Q⟩, Q .nx e1⟩⟩) : ∀ {n m : Nat} {e : Env}, P m e → m < n → @W _ (whlL c b n) e ⟨Q⟩
  | 0, m, e, p, hn => by omega
  | n + 1, m, e, p, hn => by
    obtain ⟨t, e1, h1, h2⟩ := hs m e p
    rw [W_eq, whlL]
    simp only [h1]
    cases t with
    | false =>
      have h2 : @WB false ⟨_, Q .nx e1⟩ := h2
      rw [WB_false] at h2
      exact h2
    | true =>
      have h2 : @WB true ⟨@W _ b e1 ⟨goesOn (fun e2 => ∃ m', m' < m ∧ P m' e2) Q⟩, Q .nx e1⟩ := h2
      rw [WB_true] at h2
      obtain ⟨fl, e2, h3, h4⟩ := h2
      simp only [h3]
      cases fl with
      | nx =>
        obtain ⟨m', h5, h6⟩ : ∃ m', m' < m ∧ P m' e2 := h4
        have := W_whl P hs (n := n) h6 (by omega)
        rwa [W_eq] at this
      | ct =>
        obtain ⟨m', h5, h6⟩ : ∃ m', m' < m ∧ P m' e2 := h4
        have := W_whl P hs (n := n) h6 (by omega)
        rwa [W_eq] at this
      | bk => exact h4
      | rt v => exact h4
/-! ### comprehensions -/
theorem W_eComp {vs : List Nat} {mi : M (List D)} {g : Vl → M Unit} {tt : M Bool} {te : M Vl} {Q : Vl → Env → Prop} : @W _ (eComp vs mi g tt te) e ⟨Q⟩ =
    @W _ mi e ⟨fun ds e1 => @WC (vs.all fun v => calmS e1[v]?) ⟨@WO _ (some (wipeE e1 vs)) ⟨fun e2 => @W _ (compL vs g tt te ds) e2 ⟨fun ys e3 => @WC (small ys.length) ⟨@WO _ (some (unwipe e1 e3 vs)) ⟨fun e4 => Q (.fr (.lst ys)) e4⟩⟩⟩⟩⟩⟩ := by
  unfold eComp
  simp only [W_eq]
  cases mi e with
  | none => rfl
  | some p =>
    dsimp only
    try rw [WC_eq]
    cases (vs.all fun v => calmS p.2[v]?) with
    | false => rfl
    | true =>
      dsimp only
      rw [WO_some, W_eq]
      simp only [if_true]
      cases compL vs g tt te p.1 (wipeE p.2 vs) with
      | none => rfl
      | some q =>
        dsimp only
        try rw [WC_eq]
        cases small q.1.length with
        | false => rfl
        | true =>
          dsimp only
          rw [WO_some]
          rfl
theorem W_comp_at {vs : List Nat} {g : Vl → M Unit} {tt : M Bool} {te : M Vl} {P : Nat → List D → Env → Prop} : ∀ {ds : List D} {k : Nat} {ys : List D} {e : Env} {Q : List D → Env → Prop}, P k ys e →
    (∀ i d ys e, ds[i]? = some d → P (k + i) ys e → @W _ (g (.im d)) e ⟨fun _ e1 => @W _ tt e1 ⟨fun b e2 => @WB b ⟨@W _ te e2 ⟨fun r e3 => @W _ (frz r.hold) e3 ⟨fun y e4 => @WO _ (some (wipeE e4 vs)) ⟨fun e5 => P (k + i + 1) (ys ++ [y]) e5⟩⟩⟩, @WO _ (some (wipeE e2 vs)) ⟨fun e5 => P (k + i + 1) ys e5⟩⟩⟩⟩) →
    (∀ zs e, P (k + ds.length) (ys ++ zs) e → Q zs e) → @W _ (compL vs g tt te ds) e ⟨Q⟩
  | [], k, ys, e, Q, p, _, q => ⟨[], e, rfl, q [] e (by rw [List.append_nil]; exact p)⟩
  | d :: ds, k, ys, e, Q, p, h, q => by
    obtain ⟨_, e1, h1, b, e2, h2, h3⟩ := h 0 d ys e rfl p
    have nx : ∀ {ys' : List D} {e' : Env} {Q' : List D → Env → Prop}, P (k + 1) ys' e' → (∀ zs e, P (k + 1 + ds.length) (ys' ++ zs) e → Q' zs e) → @W _ (compL vs g tt te ds) e' ⟨Q'⟩ := fun p' q' => W_comp_at (k := k + 1) p' (fun i d ys e hd hp => by
      have := h (i + 1) d ys e hd (by rw [show k + (i + 1) = k + 1 + i by omega]; exact hp)
      rwa [show k + (i + 1) + 1 = k + 1 + i + 1 by omega] at this) q'
    have hk : k + 1 + ds.length = k + (d :: ds).length := by rw [List.length_cons]; omega
    cases b with
    | false =>
      have h3 : @WB false ⟨_, @WO _ (some (wipeE e2 vs)) ⟨fun e5 => P (k + 0 + 1) ys e5⟩⟩ := h3
      rw [WB_false, WO_some] at h3
      obtain ⟨zs, e3, h4, h5⟩ := nx (Q' := Q) h3 fun zs e hp => q zs e (by rw [← hk]; exact hp)
      refine ⟨zs, e3, ?_, h5⟩
      rw [compL]
      simp only [h1, h2, h4]
    | true =>
      have h3 : @WB true ⟨@W _ te e2 ⟨fun r e3 => @W _ (frz r.hold) e3 ⟨fun y e4 => @WO _ (some (wipeE e4 vs)) ⟨fun e5 => P (k + 0 + 1) (ys ++ [y]) e5⟩⟩⟩, _⟩ := h3
      rw [WB_true] at h3
      obtain ⟨r, e3, h4, y, e4, h5, h6⟩ := h3
      have h6 : @WO _ (some (wipeE e4 vs)) ⟨fun e5 => P (k + 0 + 1) (ys ++ [y]) e5⟩ := h6
      rw [WO_some] at h6
      obtain ⟨zs, e5, h7, h8⟩ := nx (Q' := fun zs e => Q (y :: zs) e) h6 fun zs e hp => q (y :: zs) e (by rw [← hk]; rwa [List.append_assoc] at hp)
      refine ⟨y :: zs, e5, ?_, h8⟩
      rw [compL]
      simp only [h1, h2, h4, h5, h7]
/-- by an invariant of what was told so far -/
theorem W_comp (P : Nat → List D → Env → Prop) {vs : List Nat} {g : Vl → M Unit} {tt : M Bool} {te : M Vl} {Q : List D → Env → Prop} {ds : List D} (h0 : P 0 [] e)
    (hs : ∀ i d ys e, ds[i]? = some d → P i ys e → @W _ (g (.im d)) e ⟨fun _ e1 => @W _ tt e1 ⟨fun b e2 => @WB b ⟨@W _ te e2 ⟨fun r e3 => @W _ (frz r.hold) e3 ⟨fun y e4 => @WO _ (some (wipeE e4 vs)) ⟨fun e5 => P (i + 1) (ys ++ [y]) e5⟩⟩⟩, @WO _ (some (wipeE e2 vs)) ⟨fun e5 => P (i + 1) ys e5⟩⟩⟩⟩)
    (hq : ∀ ys e, P ds.length ys e → Q ys e) : @W _ (compL vs g tt te ds) e ⟨Q⟩ :=
  W_comp_at (P := P) (k := 0) h0 (fun i d ys e hd hp => by
    rw [Nat.zero_add] at hp ⊢
    exact hs i d ys e hd hp) fun ys e hp => hq ys e (by rwa [Nat.zero_add] at hp)
/-- one that leaves the slots as they are: what p takes, by f -/
theorem W_comp_flt (p : D → Bool) (f : D → D) {vs : List Nat} {g : Vl → M Unit} {tt : M Bool} {te : M Vl} {Q : List D → Env → Prop} {ds : List D}
    (hs : ∀ d, d ∈ ds → @W _ (g (.im d)) e ⟨fun _ e1 => @W _ tt e1 ⟨fun b e2 => @WB b ⟨@W _ te e2 ⟨fun r e3 => @W _ (frz r.hold) e3 ⟨fun y e4 => p d = true ∧ y = f d ∧ wipeE e4 vs = e⟩⟩, p d = false ∧ wipeE e2 vs = e⟩⟩⟩)
    (hq : Q ((ds.filter p).map f) e) : @W _ (compL vs g tt te ds) e ⟨Q⟩ := by
  refine ⟨_, _, ?_, hq⟩
  clear hq
  induction ds with
  | nil => rfl
  | cons d ds ih =>
    have ih := ih fun d hd => hs d (List.mem_cons_of_mem _ hd)
    obtain ⟨_, e1, h1, b, e2, h2, h3⟩ := hs d (List.mem_cons_self ..)
    rw [compL]
    cases b with
    | false =>
      have h3 : @WB false ⟨_, p d = false ∧ wipeE e2 vs = e⟩ := h3
      rw [WB_false] at h3
      simp only [h1, h2, h3.2, ih, List.filter_cons, h3.1, Bool.false_eq_true, if_false]
    | true =>
      have h3 : @WB true ⟨@W _ te e2 ⟨fun r e3 => @W _ (frz r.hold) e3 ⟨fun y e4 => p d = true ∧ y = f d ∧ wipeE e4 vs = e⟩⟩, _⟩ := h3
      rw [WB_true] at h3
      obtain ⟨r, e3, h4, y, e4, h5, h6, h7, h8⟩ := h3
      have h7 : y = f d := h7
      have h6 : p d = true := h6
      have h8 : wipeE e4 vs = e := h8
      simp only [h1, h2, h4, h5, h8, ih, List.filter_cons, h6, if_true, List.map_cons, h7]
theorem W_comp_map (f : D → D) {vs : List Nat} {g : Vl → M Unit} {tt : M Bool} {te : M Vl} {Q : List D → Env → Prop} {ds : List D}
    (hs : ∀ d, d ∈ ds → @W _ (g (.im d)) e ⟨fun _ e1 => @W _ tt e1 ⟨fun b e2 => @WB b ⟨@W _ te e2 ⟨fun r e3 => @W _ (frz r.hold) e3 ⟨fun y e4 => y = f d ∧ wipeE e4 vs = e⟩⟩, False⟩⟩⟩)
    (hq : Q (ds.map f) e) : @W _ (compL vs g tt te ds) e ⟨Q⟩ := by
  refine W_comp_flt (fun _ => true) f (fun d hd => ?_) (by rw [show ds.filter (fun _ => true) = ds by induction ds <;> simp_all]; exact hq)
  refine W_mono (hs d hd) fun _ e1 h => W_mono h fun b e2 h => ?_
  cases b with
  | false => exact (WB_false.mp h).elim
  | true =>
    refine WB_true.mpr ?_
    have h := WB_true.mp h
    exact W_mono h fun r e3 h => W_mono h fun y e4 h => ⟨rfl, h⟩
theorem nsucc {n : Nat} {e : Env} : e = e := rfl
end
end PD
namespace PD
open PySem PySem.Spec PyProof.Rows L2
section
variable {α : Type} {a b c d e f g h i : α} {l : List α}
theorem at0 : L2.atI (a :: l) 0 = some a := at_nat (j := 0) rfl
theorem at1 : L2.atI (a :: b :: l) 1 = some b := at_nat (j := 1) rfl
theorem at2 : L2.atI (a :: b :: c :: l) 2 = some c := at_nat (j := 2) rfl
theorem at3 : L2.atI (a :: b :: c :: d :: l) 3 = some d := at_nat (j := 3) rfl
theorem at4 : L2.atI (a :: b :: c :: d :: e :: l) 4 = some e := at_nat (j := 4) rfl
theorem at5 : L2.atI (a :: b :: c :: d :: e :: f :: l) 5 = some f := at_nat (j := 5) rfl
theorem at6 : L2.atI (a :: b :: c :: d :: e :: f :: g :: l) 6 = some g := at_nat (j := 6) rfl
theorem at7 : L2.atI (a :: b :: c :: d :: e :: f :: g :: h :: l) 7 = some h := at_nat (j := 7) rfl
theorem ixN_nat {n j : Nat} (h : j < n) : L2.ixN n (j : Int) = some j := by
  unfold L2.ixN
  rw [if_pos (by omega), if_pos (by omega)]
  rfl
theorem setDk_at {ds : List D} {j : Nat} {x : D} (h : j < ds.length) : setDk (.lst ds) (.int (j : Int)) x = some (.lst (ds.set j x)) := by
  show (match L2.ixN ds.length (j : Int) with | some j => some (D.lst (ds.set j x)) | none => none) = _
  rw [ixN_nat h]
theorem sd0 {a x : D} {l : List D} : setDk (.lst (a :: l)) (.int 0) x = some (.lst (x :: l)) := setDk_at (j := 0) (by simp)
theorem sd1 {a b x : D} {l : List D} : setDk (.lst (a :: b :: l)) (.int 1) x = some (.lst (a :: x :: l)) := setDk_at (j := 1) (by simp)
theorem sd2 {a b c x : D} {l : List D} : setDk (.lst (a :: b :: c :: l)) (.int 2) x = some (.lst (a :: b :: x :: l)) := setDk_at (j := 2) (by simp)
theorem sd3 {a b c d x : D} {l : List D} : setDk (.lst (a :: b :: c :: d :: l)) (.int 3) x = some (.lst (a :: b :: c :: x :: l)) := setDk_at (j := 3) (by simp)
theorem WO_map {β : Type} {o : Option α} {f : α → β} {K : β → Prop} : @WO _ (o.map f) ⟨K⟩ = @WO _ o ⟨fun a => K (f a)⟩ := by
  simp only [WO_eq]
  cases o <;> rfl
/-- an index within a list -/
theorem WO_at {l : List α} {i : Int} {K : α → Prop} (h0 : 0 ≤ i) (h1 : i < l.length) (q : ∀ (j : Nat) (a : α), i = j → l[j]? = some a → K a) : @WO _ (L2.atI l i) ⟨K⟩ := by
  obtain ⟨j, rfl⟩ := Int.eq_ofNat_of_zero_le h0
  have hj : j < l.length := by omega
  exact WO_of (at_nat (List.getElem?_eq_getElem hj)) (q j _ rfl (List.getElem?_eq_getElem hj))
end
theorem s64_small {i : Int} (h0 : -1000000000000 ≤ i) (h1 : i ≤ 1000000000000) : s64 i = true := by
  simp only [s64, Bool.and_eq_true, decide_eq_true_eq]
  omega
theorem in62_small {i : Int} (h0 : -1000000000000 ≤ i) (h1 : i ≤ 1000000000000) : in62 i = true := by
  simp only [in62, Bool.and_eq_true, decide_eq_true_eq]
  omega
theorem in63_small {i : Int} (h0 : -1000000000000 ≤ i) (h1 : i ≤ 1000000000000) : in63 i = true := by
  simp only [in63, Bool.and_eq_true, decide_eq_true_eq]
  omega
end PD
namespace PD
open PySem PySem.Spec PyProof.Rows L2
/-! ### shapes of data -/
inductive Ty where
  | int (lo hi : Int)
  | bl
  /-- a text of so many signs below 128 at most -/
  | str (n : Nat)
  | tup (ts : List Ty)
  /-- a tuple, a list of so many of one shape at most -/
  | tv (t : Ty) (n : Nat)
  | lst (t : Ty) (n : Nat)
  | un (t u : Ty)
  /-- a bare tuple -/
  | bt (t : Ty) (n : Nat)
  | non
mutual
def Has : Ty → D → Prop
  | .int lo hi, d => ∃ i, d = .int i ∧ lo ≤ i ∧ i ≤ hi
  | .bl, d => ∃ b, d = .bl b
  | .str n, d => ∃ x, d = .str x ∧ As n x
  | .tup ts, d => ∃ ds, d = .tup ds ∧ HasL ts ds
  | .tv t n, d => ∃ ds, d = .tup ds ∧ ds.length ≤ n ∧ ∀ e ∈ ds, Has t e
  | .lst t n, d => ∃ ds, d = .lst ds ∧ ds.length ≤ n ∧ ∀ e ∈ ds, Has t e
  | .un t u, d => Has t d ∨ Has u d
  | .bt t n, d => ∃ ds, d = .tp ds ∧ ds.length ≤ n ∧ ∀ e ∈ ds, Has t e
  | .non, d => d = .non
def HasL : List Ty → List D → Prop
  | [], ds => ds = []
  | t :: ts, ds => ∃ d r, ds = d :: r ∧ Has t d ∧ HasL ts r
end
mutual
def Ty.dep : Ty → Nat
  | .int _ _ => 0
  | .bl => 0
  | .str _ => 0
  | .tup ts => deps ts + 1
  | .tv t _ => t.dep + 1
  | .lst t _ => t.dep + 1
  | .un t u => max t.dep u.dep
  | .bt t _ => t.dep + 1
  | .non => 0
def deps : List Ty → Nat
  | [] => 0
  | t :: ts => max t.dep (deps ts)
end
mutual
theorem Has.py : ∀ {t : Ty} {d : D}, Has t d → d.isPy = true ∧ d.py.canLay0 = true ∧ d.py.depth ≤ t.dep
  | .int lo hi, d, h => by
    obtain ⟨i, rfl, _⟩ := h
    simp [D.isPy, D.py, PyData.canLay0, PyData.depth]
  | .bl, d, h => by
    obtain ⟨i, rfl⟩ := h
    simp [D.isPy, D.py, PyData.canLay0, PyData.depth]
  | .str n, d, h => by
    obtain ⟨x, rfl, hx⟩ := h
    simp [D.isPy, D.py, PyData.canLay0, PyData.depth, hx.ok]
  | .tup ts, d, h => by
    obtain ⟨ds, rfl, hd⟩ := h
    obtain ⟨h1, h2, h3⟩ := HasL.py hd
    refine ⟨by simpa [D.isPy] using h1, by simpa [D.py, PyData.canLay0] using h2, ?_⟩
    simp only [D.py, PyData.depth, Ty.dep]
    omega
  | .tv t n, d, h => by
    obtain ⟨ds, rfl, hlen, hd⟩ := h
    clear hlen
    have : arePy ds = true ∧ PyData.canLayAll0 (pys ds) = true ∧ PyData.depthAll (pys ds) ≤ t.dep := by
      induction ds with
      | nil => simp [arePy, pys, PyData.canLayAll0, PyData.depthAll]
      | cons x r ih =>
        obtain ⟨g1, g2, g3⟩ := ih fun e he => hd e (List.mem_cons_of_mem _ he)
        obtain ⟨f1, f2, f3⟩ := Has.py (hd x (List.mem_cons_self ..))
        refine ⟨by simp [arePy, f1, g1], by simp [pys, PyData.canLayAll0, f2, g2], ?_⟩
        simp only [pys, PyData.depthAll]
        omega
    refine ⟨by simpa [D.isPy] using this.1, by simpa [D.py, PyData.canLay0] using this.2.1, ?_⟩
    simp only [D.py, PyData.depth, Ty.dep]
    omega
  | .bt t n, d, h => by
    obtain ⟨ds, rfl, hlen, hd⟩ := h
    clear hlen
    have : arePy ds = true ∧ PyData.canLayAll0 (pys ds) = true ∧ PyData.depthAll (pys ds) ≤ t.dep := by
      induction ds with
      | nil => simp [arePy, pys, PyData.canLayAll0, PyData.depthAll]
      | cons x r ih =>
        obtain ⟨g1, g2, g3⟩ := ih fun e he => hd e (List.mem_cons_of_mem _ he)
        obtain ⟨f1, f2, f3⟩ := Has.py (hd x (List.mem_cons_self ..))
        refine ⟨by simp [arePy, f1, g1], by simp [pys, PyData.canLayAll0, f2, g2], ?_⟩
        simp only [pys, PyData.depthAll]
        omega
    refine ⟨by simpa [D.isPy] using this.1, by simpa [D.py, PyData.canLay0] using this.2.1, ?_⟩
    simp only [D.py, PyData.depth, Ty.dep]
    omega
  | .non, d, h => by
    have h : d = .non := h
    subst h
    simp [D.isPy, D.py, PyData.canLay0, PyData.depth]
  | .lst t n, d, h => by
    obtain ⟨ds, rfl, hlen, hd⟩ := h
    clear hlen
    have : arePy ds = true ∧ PyData.canLayAll0 (pys ds) = true ∧ PyData.depthAll (pys ds) ≤ t.dep := by
      induction ds with
      | nil => simp [arePy, pys, PyData.canLayAll0, PyData.depthAll]
      | cons x r ih =>
        obtain ⟨g1, g2, g3⟩ := ih fun e he => hd e (List.mem_cons_of_mem _ he)
        obtain ⟨f1, f2, f3⟩ := Has.py (hd x (List.mem_cons_self ..))
        refine ⟨by simp [arePy, f1, g1], by simp [pys, PyData.canLayAll0, f2, g2], ?_⟩
        simp only [pys, PyData.depthAll]
        omega
    refine ⟨by simpa [D.isPy] using this.1, by simpa [D.py, PyData.canLay0] using this.2.1, ?_⟩
    simp only [D.py, PyData.depth, Ty.dep]
    omega
  | .un t u, d, h => by
    rcases (h : Has t d ∨ Has u d) with h | h
    · obtain ⟨h1, h2, h3⟩ := Has.py h
      exact ⟨h1, h2, by simp only [Ty.dep]; omega⟩
    · obtain ⟨h1, h2, h3⟩ := Has.py h
      exact ⟨h1, h2, by simp only [Ty.dep]; omega⟩
theorem HasL.py : ∀ {ts : List Ty} {ds : List D}, HasL ts ds → arePy ds = true ∧ PyData.canLayAll0 (pys ds) = true ∧ PyData.depthAll (pys ds) ≤ deps ts
  | [], ds, h => by
    have h : ds = [] := h
    subst h
    simp [arePy, pys, PyData.canLayAll0, PyData.depthAll]
  | t :: ts, ds, h => by
    obtain ⟨d, r, rfl, h1, h2⟩ := h
    obtain ⟨f1, f2, f3⟩ := Has.py h1
    obtain ⟨g1, g2, g3⟩ := HasL.py h2
    refine ⟨by simp [arePy, f1, g1], by simp [pys, PyData.canLayAll0, f2, g2], ?_⟩
    simp only [pys, PyData.depthAll, deps]
    omega
end
/-- a list's data of one shape, as a list -/
theorem hasAll_py {t : Ty} {ds : List D} (h : ∀ e ∈ ds, Has t e) : arePy ds = true ∧ PyData.canLayAll0 (pys ds) = true ∧ PyData.depthAll (pys ds) ≤ t.dep := by
  have h1 := Has.py (t := .lst t ds.length) (d := .lst ds) ⟨ds, rfl, Nat.le_refl _, h⟩
  refine ⟨by simpa [D.isPy] using h1.1, by simpa [D.py, PyData.canLay0] using h1.2.1, ?_⟩
  have := h1.2.2
  simp only [D.py, PyData.depth, Ty.dep] at this
  omega
/-! can be compared -/
def al : Nat → Ty → Ty → Bool
  | n + 1, .un t u, v => al n t v && al n u v
  | n + 1, .int _ _, v => match v with
    | .int _ _ => true
    | .un u v => al n (.int 0 0) u && al n (.int 0 0) v
    | _ => false
  | n + 1, .bl, v => match v with
    | .bl => true
    | .un u v => al n .bl u && al n .bl v
    | _ => false
  | n + 1, .str m, v => match v with
    | .str _ => true
    | .un u v => al n (.str m) u && al n (.str m) v
    | _ => false
  | n + 1, .tup ts, v => match v with
    | .tup us => (ts.zip us).all fun p => al n p.1 p.2
    | .tv u _ => ts.all fun t => al n t u
    | .un u v => al n (.tup ts) u && al n (.tup ts) v
    | _ => false
  | n + 1, .tv t m, v => match v with
    | .tup us => us.all fun u => al n t u
    | .tv u _ => al n t u
    | .un u v => al n (.tv t m) u && al n (.tv t m) v
    | _ => false
  | n + 1, .lst t m, v => match v with
    | .lst u _ => al n t u
    | .un u v => al n (.lst t m) u && al n (.lst t m) v
    | _ => false
  | _ + 1, .bt _ _, _ => false
  | _ + 1, .non, _ => false
  | 0, _, _ => false
def Ty.al (t u : Ty) : Bool := PD.al 20 t u
theorem alikeAll_of : ∀ {ds es : List D}, (∀ (i : Nat) (d e : D), ds[i]? = some d → es[i]? = some e → PySem.W.alike d.py e.py = true) → PySem.W.alikeAll (pys ds) (pys es) = true
  | [], es, _ => by simp [pys, PySem.W.alikeAll]
  | d :: ds, [], _ => by simp [pys, PySem.W.alikeAll]
  | d :: ds, e :: es, h => by
    simp only [pys, PySem.W.alikeAll, Bool.and_eq_true]
    exact ⟨h 0 d e rfl rfl, alikeAll_of fun i a b ha hb => h (i + 1) a b ha hb⟩
theorem HasL.at : ∀ {ts : List Ty} {ds : List D} {i : Nat} {d : D}, HasL ts ds → ds[i]? = some d → ∃ t, ts[i]? = some t ∧ Has t d
  | [], ds, i, d, h, e => by
    have h : ds = [] := h
    subst h
    simp at e
  | t :: ts, ds, i, d, h, e => by
    obtain ⟨x, r, rfl, h1, h2⟩ := h
    cases i with
    | zero =>
      have : x = d := by simpa using e
      subst this
      exact ⟨t, rfl, h1⟩
    | succ i => exact HasL.at (i := i) h2 (by simpa using e)
theorem zip_at {ts us : List Ty} {p : Ty × Ty → Bool} (h : (ts.zip us).all p = true) {i : Nat} {t u : Ty} (h1 : ts[i]? = some t) (h2 : us[i]? = some u) : p (t, u) = true := by
  refine List.all_eq_true.mp h (t, u) ?_
  refine List.mem_of_getElem? (i := i) ?_
  rw [List.getElem?_zip_eq_some]
  exact ⟨h1, h2⟩
theorem Has.int_any {lo hi : Int} {d : D} (h : Has (.int lo hi) d) : ∃ i, d = .int i := by
  obtain ⟨i, e, _⟩ := h
  exact ⟨i, e⟩
theorem al_int : ∀ (n : Nat) {u : Ty} {i : Int} {e : D}, al n (.int 0 0) u = true → Has u e → PySem.W.alike (D.int i).py e.py = true
  | 0, u, i, e, h, _ => by cases h
  | n + 1, u, i, e, h, h2 => by
    cases u with
    | int lo hi =>
      obtain ⟨j, rfl, _⟩ := h2
      simp only [D.py, PySem.W.alike]
    | un u v =>
      have h : (al n (.int 0 0) u && al n (.int 0 0) v) = true := h
      rw [Bool.and_eq_true] at h
      rcases (h2 : Has u e ∨ Has v e) with h2 | h2
      · exact al_int n h.1 h2
      · exact al_int n h.2 h2
    | _ => cases h
theorem al_ok : ∀ (n : Nat) {t u : Ty} {d e : D}, al n t u = true → Has t d → Has u e → PySem.W.alike d.py e.py = true
  | 0, t, u, _, _, h, _, _ => by cases t <;> cases h
  | n + 1, t, u, d, e, h, h1, h2 => by
    cases t with
    | un t t' =>
      have h : (al n t u && al n t' u) = true := h
      rw [Bool.and_eq_true] at h
      rcases (h1 : Has t d ∨ Has t' d) with h1 | h1
      · exact al_ok n h.1 h1 h2
      · exact al_ok n h.2 h1 h2
    | int lo hi =>
      obtain ⟨i, rfl⟩ := h1.int_any
      exact al_int (n + 1) (u := u) (by cases u <;> exact h) h2
    | bl =>
      cases u with
      | bl =>
        obtain ⟨i, rfl⟩ := h1
        obtain ⟨j, rfl⟩ := h2
        simp only [D.py, PySem.W.alike]
      | un u v =>
        have h : (al n .bl u && al n .bl v) = true := h
        rw [Bool.and_eq_true] at h
        rcases (h2 : Has u e ∨ Has v e) with h2 | h2
        · exact al_ok n h.1 h1 h2
        · exact al_ok n h.2 h1 h2
      | _ => cases h
    | str m =>
      cases u with
      | str m' =>
        obtain ⟨i, rfl, _⟩ := h1
        obtain ⟨j, rfl, _⟩ := h2
        simp only [D.py, PySem.W.alike]
      | un u v =>
        have h : (al n (.str m) u && al n (.str m) v) = true := h
        rw [Bool.and_eq_true] at h
        rcases (h2 : Has u e ∨ Has v e) with h2 | h2
        · exact al_ok n h.1 h1 h2
        · exact al_ok n h.2 h1 h2
      | _ => cases h
    | tup ts =>
      cases u with
      | tup us =>
        obtain ⟨ds, rfl, g1⟩ := h1
        obtain ⟨es, rfl, g2⟩ := h2
        simp only [D.py, PySem.W.alike]
        refine alikeAll_of fun i a b ha hb => ?_
        obtain ⟨t', k1, k2⟩ := g1.at ha
        obtain ⟨u', k3, k4⟩ := g2.at hb
        exact al_ok n (zip_at (p := fun p => al n p.1 p.2) h k1 k3) k2 k4
      | tv u m =>
        obtain ⟨ds, rfl, g1⟩ := h1
        obtain ⟨es, rfl, _, g2⟩ := h2
        simp only [D.py, PySem.W.alike]
        refine alikeAll_of fun i a b ha hb => ?_
        obtain ⟨t', k1, k2⟩ := g1.at ha
        have h : (ts.all fun t => al n t u) = true := h
        exact al_ok n (List.all_eq_true.mp h t' (List.mem_of_getElem? k1)) k2 (g2 b (List.mem_of_getElem? hb))
      | un u v =>
        have h : (al n (.tup ts) u && al n (.tup ts) v) = true := h
        rw [Bool.and_eq_true] at h
        rcases (h2 : Has u e ∨ Has v e) with h2 | h2
        · exact al_ok n h.1 h1 h2
        · exact al_ok n h.2 h1 h2
      | _ => cases h
    | tv t m =>
      cases u with
      | tup us =>
        obtain ⟨ds, rfl, _, g1⟩ := h1
        obtain ⟨es, rfl, g2⟩ := h2
        simp only [D.py, PySem.W.alike]
        refine alikeAll_of fun i a b ha hb => ?_
        obtain ⟨u', k3, k4⟩ := g2.at hb
        have h : (us.all fun u => al n t u) = true := h
        exact al_ok n (List.all_eq_true.mp h u' (List.mem_of_getElem? k3)) (g1 a (List.mem_of_getElem? ha)) k4
      | tv u m' =>
        obtain ⟨ds, rfl, _, g1⟩ := h1
        obtain ⟨es, rfl, _, g2⟩ := h2
        simp only [D.py, PySem.W.alike]
        exact alikeAll_of fun i a b ha hb => al_ok n (t := t) (u := u) h (g1 a (List.mem_of_getElem? ha)) (g2 b (List.mem_of_getElem? hb))
      | un u v =>
        have h : (al n (.tv t m) u && al n (.tv t m) v) = true := h
        rw [Bool.and_eq_true] at h
        rcases (h2 : Has u e ∨ Has v e) with h2 | h2
        · exact al_ok n h.1 h1 h2
        · exact al_ok n h.2 h1 h2
      | _ => cases h
    | lst t m =>
      cases u with
      | lst u m' =>
        obtain ⟨ds, rfl, _, g1⟩ := h1
        obtain ⟨es, rfl, _, g2⟩ := h2
        simp only [D.py, PySem.W.alike]
        exact alikeAll_of fun i a b ha hb => al_ok n (t := t) (u := u) h (g1 a (List.mem_of_getElem? ha)) (g2 b (List.mem_of_getElem? hb))
      | un u v =>
        have h : (al n (.lst t m) u && al n (.lst t m) v) = true := h
        rw [Bool.and_eq_true] at h
        rcases (h2 : Has u e ∨ Has v e) with h2 | h2
        · exact al_ok n h.1 h1 h2
        · exact al_ok n h.2 h1 h2
      | _ => cases h
    | bt t m => cases u <;> cases h
    | non => cases u <;> cases h
/-- a tuple of one thing at least -/
def Ty.ne : Ty → Bool
  | .tup (_ :: _) => true
  | .un t u => t.ne && u.ne
  | _ => false
def Ty.noT : Ty → Bool
  | .tup _ => false
  | .tv _ _ => false
  | .bt _ _ => false
  | .non => false
  | .un t u => t.noT && u.noT
  | _ => true
theorem Has.ne : ∀ {t : Ty} {d : D}, t.ne = true → Has t d → ∃ x r, d = .tup (x :: r)
  | .tup (t :: ts), d, _, h => by
    obtain ⟨ds, rfl, x, r, rfl, _⟩ := h
    exact ⟨x, r, rfl⟩
  | .un t u, d, hn, h => by
    rw [Ty.ne, Bool.and_eq_true] at hn
    rcases (h : Has t d ∨ Has u d) with h | h
    · exact Has.ne hn.1 h
    · exact Has.ne hn.2 h
theorem Has.noT : ∀ {t : Ty} {d : D}, t.noT = true → Has t d → (match d with | .tup _ => false | .tp _ => false | .non => false | _ => true) = true
  | .int _ _, d, _, h => by
    obtain ⟨_, rfl, _⟩ := h
    rfl
  | .bl, d, _, h => by
    obtain ⟨_, rfl⟩ := h
    rfl
  | .str _, d, _, h => by
    obtain ⟨_, rfl, _⟩ := h
    rfl
  | .lst _ _, d, _, h => by
    obtain ⟨_, rfl, _⟩ := h
    rfl
  | .un t u, d, hn, h => by
    rw [Ty.noT, Bool.and_eq_true] at hn
    rcases (h : Has t d ∨ Has u d) with h | h
    · exact Has.noT hn.1 h
    · exact Has.noT hn.2 h
theorem sort_ok {t : Ty} {ds : List D} (h : ∀ d ∈ ds, Has t d) (ha : t.al t = true) (hd : t.dep ≤ 50) (hk : (t.ne || t.noT) = true) (hl : ds.length ≤ 1000000) : sortedD [.lst ds] = some (.fr (.lst (sortL ds))) := by
  obtain ⟨h1, h2, h3⟩ := hasAll_py h
  have e : sortOk ds = true := by
    unfold sortOk
    rw [Bool.and_eq_true, Bool.and_eq_true, Bool.and_eq_true, Bool.and_eq_true]
    refine ⟨⟨⟨⟨h1, ?_⟩, decide_eq_true (by omega)⟩, small_lit (by omega)⟩, ?_⟩
    · rw [List.all_eq_true]
      intro x hx
      rw [List.all_eq_true]
      intro y hy
      rw [pys_map] at hx hy
      obtain ⟨x', hx', rfl⟩ := List.mem_map.mp hx
      obtain ⟨y', hy', rfl⟩ := List.mem_map.mp hy
      exact al_ok 20 ha (h x' hx') (h y' hy')
    · rcases Bool.or_eq_true_iff.mp hk with hk | hk
      · refine Bool.or_eq_true_iff.mpr (.inl (List.all_eq_true.mpr fun d hd => ?_))
        obtain ⟨x, r, rfl⟩ := (h d hd).ne hk
        rfl
      · refine Bool.or_eq_true_iff.mpr (.inr (List.all_eq_true.mpr fun d hd => ?_))
        exact (h d hd).noT hk
  rw [sortedD, if_pos e]
theorem sortL_perm (ds : List D) : (sortL ds).Perm ds := List.mergeSort_perm _ _
theorem sortL_mem {ds : List D} {d : D} : d ∈ sortL ds ↔ d ∈ ds := (sortL_perm ds).mem_iff
theorem sortL_len (ds : List D) : (sortL ds).length = ds.length := (sortL_perm ds).length_eq
/-! == -/
theorem eqB_self {t : Ty} {d : D} (h : Has t d) : eqB d d = true := PySem.SeqAt.eqv_refl d.py h.py.2.1
theorem has_dep {t : Ty} {d : D} (h : Has t d) (n : Nat) (hn : t.dep ≤ n) : depB n d = true := decide_eq_true (Nat.le_trans h.py.2.2 hn)
theorem eqD_py {d e : D} (h1 : d.isPy = true) (h2 : e.isPy = true) (h3 : depB 64 d = true) : eqD [d, e] = some (.im (.bl (eqB d e))) := by
  cases d <;> cases e <;> first | (simp [D.isPy] at h1; done) | (simp [D.isPy] at h2; done) | simp only [eqD, h1, h2, h3, Bool.true_or, Bool.and_self, if_true]
theorem neD_py {d e : D} (h1 : d.isPy = true) (h2 : e.isPy = true) (h3 : depB 64 d = true) : neD [d, e] = some (.im (.bl (!eqB d e))) := by
  cases d <;> cases e <;> first | (simp [D.isPy] at h1; done) | (simp [D.isPy] at h2; done) | simp only [neD, h1, h2, h3, Bool.true_or, Bool.and_self, if_true]
theorem neD_self {t : Ty} {d : D} (h : Has t d) (hn : t.dep ≤ 64) : neD [d, d] = some (.im (.bl false)) := by
  rw [neD_py h.py.1 h.py.1 (has_dep h 64 hn), eqB_self h]
  rfl
theorem eqB_int (i j : Int) : eqB (.int i) (.int j) = decide (i = j) := by
  unfold eqB
  simp only [D.py, PyData.eqv]
  by_cases h : i = j <;> simp [h]
theorem eqB_str (i j : Str) : eqB (.str i) (.str j) = decide (i = j) := by
  unfold eqB
  simp only [D.py, PyData.eqv]
  by_cases h : i = j <;> simp [h]
theorem eqB_bl (i j : Bool) : eqB (.bl i) (.bl j) = decide (i = j) := by
  unfold eqB
  simp only [D.py, PyData.eqv]
  cases i <;> cases j <;> rfl
theorem dep0 {d : D} (h : d.py.depth = 0) : depB 64 d = true := decide_eq_true (by omega)
theorem eqD_int (i j : Int) : eqD [.int i, .int j] = some (.im (.bl (decide (i = j)))) := by
  rw [eqD_py rfl rfl (dep0 rfl), eqB_int]
theorem eqD_str (i j : Str) : eqD [.str i, .str j] = some (.im (.bl (decide (i = j)))) := by
  rw [eqD_py rfl rfl (dep0 rfl), eqB_str]
theorem eqD_bl (i j : Bool) : eqD [.bl i, .bl j] = some (.im (.bl (decide (i = j)))) := by
  rw [eqD_py rfl rfl (dep0 rfl), eqB_bl]
theorem neD_int (i j : Int) : neD [.int i, .int j] = some (.im (.bl (!decide (i = j)))) := by
  rw [neD_py rfl rfl (dep0 rfl), eqB_int]
theorem neD_str (i j : Str) : neD [.str i, .str j] = some (.im (.bl (!decide (i = j)))) := by
  rw [neD_py rfl rfl (dep0 rfl), eqB_str]
theorem neD_bl (i j : Bool) : neD [.bl i, .bl j] = some (.im (.bl (!decide (i = j)))) := by
  rw [neD_py rfl rfl (dep0 rfl), eqB_bl]
theorem eqB_nil (ds : List D) : eqB (.lst ds) (.lst []) = ds.isEmpty := by
  unfold eqB
  cases ds <;> simp [D.py, pys, PyData.eqv, PyData.eqvAll]
theorem eqB_nilT (ds : List D) : eqB (.tup ds) (.tup []) = ds.isEmpty := by
  unfold eqB
  cases ds <;> simp [D.py, pys, PyData.eqv, PyData.eqvAll]
theorem depB_lst {t : Ty} {ds : List D} (h : ∀ d ∈ ds, Has t d) (hd : t.dep ≤ 50) : depB 64 (.lst ds) = true := decide_eq_true (by
  have := (hasAll_py h).2.2
  simp only [D.py, PyData.depth]
  omega)
theorem depB_tup {t : Ty} {ds : List D} (h : ∀ d ∈ ds, Has t d) (hd : t.dep ≤ 50) : depB 64 (.tup ds) = true := decide_eq_true (by
  have := (hasAll_py h).2.2
  simp only [D.py, PyData.depth]
  omega)
theorem neD_nil {t : Ty} {ds : List D} (h : ∀ d ∈ ds, Has t d) (hd : t.dep ≤ 50) : neD [.lst ds, .lst []] = some (.im (.bl (!ds.isEmpty))) := by
  rw [neD_py (by simpa [D.isPy] using (hasAll_py h).1) rfl (depB_lst h hd), eqB_nil]
theorem neD_nilT {t : Ty} {ds : List D} (h : ∀ d ∈ ds, Has t d) (hd : t.dep ≤ 50) : neD [.tup ds, .tup []] = some (.im (.bl (!ds.isEmpty))) := by
  rw [neD_py (by simpa [D.isPy] using (hasAll_py h).1) rfl (depB_tup h hd), eqB_nilT]
/-! parts -/
theorem all_nil {P : D → Prop} : ∀ d ∈ ([] : List D), P d := fun _ h => by simp at h
theorem all_cons {P : D → Prop} {d : D} {ds : List D} (h : P d) (h' : ∀ e ∈ ds, P e) : ∀ e ∈ d :: ds, P e := fun e he => by
  rcases List.mem_cons.mp he with rfl | he
  · exact h
  · exact h' e he
theorem all_app {P : D → Prop} {ds es : List D} (h : ∀ e ∈ ds, P e) (h' : ∀ e ∈ es, P e) : ∀ e ∈ ds ++ es, P e := fun e he => by
  rcases List.mem_append.mp he with he | he
  · exact h e he
  · exact h' e he
theorem all_sort {P : D → Prop} {ds : List D} (h : ∀ e ∈ ds, P e) : ∀ e ∈ sortL ds, P e := fun e he => h e (sortL_mem.mp he)
theorem all_take {P : D → Prop} {ds : List D} (h : ∀ e ∈ ds, P e) (n : Nat) : ∀ e ∈ ds.take n, P e := fun e he => h e (List.mem_of_mem_take he)
theorem all_drop {P : D → Prop} {ds : List D} (h : ∀ e ∈ ds, P e) (n : Nat) : ∀ e ∈ ds.drop n, P e := fun e he => h e (List.mem_of_mem_drop he)
theorem all_cut {P : D → Prop} {ds : List D} (h : ∀ e ∈ ds, P e) (lo hi : Option Int) : ∀ e ∈ cutD ds lo hi, P e := fun e he => h e (List.mem_of_mem_drop (List.mem_of_mem_take he))
theorem cutD_len (ds : List D) (lo hi : Option Int) : (cutD ds lo hi).length ≤ ds.length := by
  unfold cutD
  rw [List.length_take, List.length_drop]
  omega
/-- an index within a list of things that P holds of -/
theorem WO_atP {P : D → Prop} {l : List D} {i : Int} {K : D → Prop} (hp : ∀ d ∈ l, P d) (h0 : 0 ≤ i) (h1 : i < l.length) (q : ∀ a, P a → K a) : @WO _ (L2.atI l i) ⟨K⟩ :=
  WO_at h0 h1 fun j a _ ha => q a (hp a (List.mem_of_getElem? ha))
theorem HasL.nil : HasL [] [] := rfl
theorem HasL.cons {t : Ty} {ts : List Ty} {d : D} {ds : List D} (h : Has t d) (h' : HasL ts ds) : HasL (t :: ts) (d :: ds) := ⟨d, ds, rfl, h, h'⟩
theorem HasL.nil' {ds : List D} (h : HasL [] ds) : ds = [] := h
theorem HasL.cons' {t : Ty} {ts : List Ty} {ds : List D} (h : HasL (t :: ts) ds) : ∃ d r, ds = d :: r ∧ Has t d ∧ HasL ts r := h
theorem Has.mkT {ts : List Ty} {ds : List D} (h : HasL ts ds) : Has (.tup ts) (.tup ds) := ⟨ds, rfl, h⟩
theorem Has.mkV {t : Ty} {n : Nat} {ds : List D} (hl : ds.length ≤ n) (h : ∀ e ∈ ds, Has t e) : Has (.tv t n) (.tup ds) := ⟨ds, rfl, hl, h⟩
theorem Has.mkB {t : Ty} {n : Nat} {ds : List D} (hl : ds.length ≤ n) (h : ∀ e ∈ ds, Has t e) : Has (.bt t n) (.tp ds) := ⟨ds, rfl, hl, h⟩
theorem Has.mkL {t : Ty} {n : Nat} {ds : List D} (hl : ds.length ≤ n) (h : ∀ e ∈ ds, Has t e) : Has (.lst t n) (.lst ds) := ⟨ds, rfl, hl, h⟩
theorem Has.mkI {lo hi i : Int} (h : lo ≤ i) (h' : i ≤ hi) : Has (.int lo hi) (.int i) := ⟨i, rfl, h, h'⟩
theorem Has.mkS {n : Nat} {x : Str} (h : As n x) : Has (.str n) (.str x) := ⟨x, rfl, h⟩
theorem WO_ifd {α : Type} {p : Prop} [Decidable p] {a : α} {K : α → Prop} (h : p) (q : K a) : @WO _ (if decide p = true then some a else none) ⟨K⟩ := WO_if (decide_eq_true h) q
theorem As.len {n : Nat} {x : Str} (h : As n x) : x.length ≤ n := h.1
theorem erase_perm : ∀ {l : List D} {k : Nat} {d : D}, l[k]? = some d → (d :: l.eraseIdx k).Perm l
  | x :: l, 0, d, h => by
    have : x = d := by simpa using h
    subst this
    exact List.Perm.refl _
  | x :: l, k + 1, d, h => by
    have ih := erase_perm (l := l) (k := k) (d := d) (by simpa using h)
    exact (List.Perm.swap x d _).trans (List.Perm.cons x ih)
/-- xs.pop(i) at a place there is -/
theorem pop_at {l : List D} {i : Int} (h0 : 0 ≤ i) (h1 : i < l.length) (hl : l.length ≤ 1000000) : ∃ (d : D) (k : Nat), l[k]? = some d ∧ popD (.lst l) [.int i] = some (.lst (l.eraseIdx k), d) ∧ (l.eraseIdx k).length + 1 = l.length ∧ (d :: l.eraseIdx k).Perm l := by
  obtain ⟨k, rfl⟩ := Int.eq_ofNat_of_zero_le h0
  have hk : k < l.length := by omega
  refine ⟨l[k], k, List.getElem?_eq_getElem hk, ?_, by rw [List.length_eraseIdx_of_lt hk]; omega, erase_perm (List.getElem?_eq_getElem hk)⟩
  have e1 : seqIndex? (k : Int) l.length = some k := by
    rw [seqIndex_of h0 (by omega)]
    simp
  have e2 : (decide (-(2 ^ 63) ≤ (k : Int)) && decide ((k : Int) < 2 ^ 63)) = true := by
    simp only [Bool.and_eq_true, decide_eq_true_eq]
    omega
  simp only [popD, e1, e2, List.getElem?_eq_getElem hk, if_true]
theorem enum_get {ds : List D} {i : Nat} {d : D} (h : (enumD 0 ds)[i]? = some d) : ∃ x, ds[i]? = some x ∧ d = .tup [.int (i : Int), x] := by
  have key : ∀ (ds : List D) (k i : Nat) (d : D), (enumD k ds)[i]? = some d → ∃ x, ds[i]? = some x ∧ d = .tup [.int ((k + i : Nat) : Int), x] := by
    intro ds
    induction ds with
    | nil => intro k i d h; simp [enumD] at h
    | cons x r ih =>
      intro k i d h
      cases i with
      | zero =>
        have : D.tup [.int (k : Nat), x] = d := by simpa [enumD] using h
        subst this
        exact ⟨x, rfl, rfl⟩
      | succ i =>
        obtain ⟨y, h1, h2⟩ := ih (k + 1) i d (by simpa [enumD] using h)
        exact ⟨y, by simpa using h1, by rw [h2, show k + 1 + i = k + (i + 1) by omega]⟩
  obtain ⟨x, h1, h2⟩ := key ds 0 i d h
  rw [Nat.zero_add] at h2
  exact ⟨x, h1, h2⟩
theorem enum_len : ∀ (ds : List D) (k : Nat), (enumD k ds).length = ds.length
  | [], k => rfl
  | x :: ds, k => by rw [enumD, List.length_cons, List.length_cons, enum_len ds]
/-! slots that change in a loop -/
def puts : Env → List (Nat × Sl) → Env
  | e, [] => e
  | e, (i, s) :: r => puts (e.set i s) r
theorem puts_nil {e : Env} : puts e [] = e := rfl
theorem puts_cons {e : Env} {i : Nat} {s : Sl} {r : List (Nat × Sl)} : puts e ((i, s) :: r) = puts (e.set i s) r := rfl
section
variable {e : Env}
theorem W_compE (P : Env → Nat → List D → Env → Prop) {vs : List Nat} {g : Vl → M Unit} {tt : M Bool} {te : M Vl} {Q : List D → Env → Prop} {ds : List D} (h0 : P e 0 [] e)
    (hs : ∀ i d ys e', ds[i]? = some d → P e i ys e' → @W _ (g (.im d)) e' ⟨fun _ e1 => @W _ tt e1 ⟨fun b e2 => @WB b ⟨@W _ te e2 ⟨fun r e3 => @W _ (frz r.hold) e3 ⟨fun y e4 => @WO _ (some (wipeE e4 vs)) ⟨fun e5 => P e (i + 1) (ys ++ [y]) e5⟩⟩⟩, @WO _ (some (wipeE e2 vs)) ⟨fun e5 => P e (i + 1) ys e5⟩⟩⟩⟩)
    (hq : ∀ ys e', P e ds.length ys e' → Q ys e') : @W _ (compL vs g tt te ds) e ⟨Q⟩ := W_comp (P e) h0 hs hq
theorem W_forE (P : Env → Nat → Env → Prop) {g : Vl → M Unit} {b : SM} {Q : Fl → Env → Prop} {ds : List D} (h0 : P e 0 e)
    (hs : ∀ i d e', ds[i]? = some d → P e i e' → @W _ (g (.im d)) e' ⟨fun _ e1 => @W _ b e1 ⟨goesOn (P e (i + 1)) Q⟩⟩)
    (hq : ∀ e', P e ds.length e' → Q .nx e') : @W _ (forL g b ds) e ⟨Q⟩ := W_for (P e) h0 hs hq
end
theorem cut_nat {α : Type} (ds : List α) (a b : Nat) : cutD ds (some (a : Int)) (some (b : Int)) = (ds.drop a).take (b - a) := by
  unfold cutD
  rw [HT.sIx_nat, HT.sIx_nat]
  by_cases h : a ≤ ds.length
  · rw [show min a ds.length = a by omega]
    by_cases hb : b ≤ ds.length
    · rw [show min b ds.length = b by omega]
    · rw [show min b ds.length = ds.length by omega, List.take_of_length_le (by simp), List.take_of_length_le (by simp; omega)]
  · rw [show min a ds.length = ds.length by omega, List.drop_length, List.drop_of_length_le (by omega)]
    simp
theorem cut_take {α : Type} (ds : List α) (b : Nat) : cutD ds none (some (b : Int)) = ds.take b := by
  have := cut_nat ds 0 b
  unfold cutD at this ⊢
  rw [HT.sIx_none]
  rw [show HT.sIx ds.length 0 (some ((0 : Nat) : Int)) = 0 by rw [HT.sIx_nat]; omega] at this
  simpa using this
theorem cut_drop {α : Type} (ds : List α) (a : Nat) : cutD ds (some (a : Int)) none = ds.drop a := by
  unfold cutD
  rw [HT.sIx_nat, HT.sIx_none]
  by_cases h : a ≤ ds.length
  · rw [show min a ds.length = a by omega, List.take_of_length_le (by simp)]
  · rw [show min a ds.length = ds.length by omega, List.drop_length, List.drop_of_length_le (by omega)]
    simp
theorem cut_takeI {α : Type} (ds : List α) {i : Int} (h : 0 ≤ i) : cutD ds none (some i) = ds.take i.toNat := by
  obtain ⟨j, rfl⟩ := Int.eq_ofNat_of_zero_le h
  exact cut_take ds j
/-! a body in two parts -/
def cutTo (R : Env → Prop) (Q : Fl → Env → Prop) : Fl → Env → Prop
  | .nx, e => R e
  | .bk, e => Q .bk e
  | .ct, e => Q .ct e
  | .rt v, e => Q (.rt v) e
theorem cut_nx {R : Env → Prop} {Q : Fl → Env → Prop} {e : Env} : cutTo R Q .nx e = R e := rfl
theorem cut_bk {R : Env → Prop} {Q : Fl → Env → Prop} {e : Env} : cutTo R Q .bk e = Q .bk e := rfl
theorem cut_ct {R : Env → Prop} {Q : Fl → Env → Prop} {e : Env} : cutTo R Q .ct e = Q .ct e := rfl
theorem cut_rt {R : Env → Prop} {Q : Fl → Env → Prop} {e : Env} {v : Vl} : cutTo R Q (.rt v) e = Q (.rt v) e := rfl
def seqs : List SM → SM → SM
  | [], t => t
  | m :: ms, t => sSeq m (seqs ms t)
theorem seqs_cut {t : SM} : ∀ {ms : List SM} {e e' : Env} {fl : Fl}, seqs ms sNil e = some (fl, e') → seqs ms t e = match fl with
    | .nx => t e'
    | fl => some (fl, e')
  | [], e, e', fl, h => by
    cases h
    rfl
  | m :: ms, e, e', fl, h => by
    have h : (match m e with | some (.nx, e') => seqs ms sNil e' | some (fl, e') => some (fl, e') | none => none) = some (fl, e') := h
    show (match m e with | some (.nx, e') => seqs ms t e' | some (fl, e') => some (fl, e') | none => none) = _
    cases hm : m e with
    | none =>
      rw [hm] at h
      cases h
    | some p =>
      obtain ⟨fl1, e1⟩ := p
      rw [hm] at h
      cases fl1 with
      | nx => exact seqs_cut h
      | bk => cases h; rfl
      | ct => cases h; rfl
      | rt v => cases h; rfl
theorem W_cutL {ms : List SM} {t : SM} {e : Env} {Q : Fl → Env → Prop} (R : Env → Prop) (h : @W _ (seqs ms sNil) e ⟨cutTo R Q⟩) (h2 : ∀ e', R e' → @W _ t e' ⟨Q⟩) : @W _ (seqs ms t) e ⟨Q⟩ := by
  obtain ⟨fl, e', h1, h3⟩ := h
  have key := seqs_cut (t := t) h1
  cases fl with
  | nx =>
    obtain ⟨fl, e2, h4, h5⟩ := h2 e' h3
    exact ⟨fl, e2, key.trans h4, h5⟩
  | bk => exact ⟨_, _, key, h3⟩
  | ct => exact ⟨_, _, key, h3⟩
  | rt v => exact ⟨_, _, key, h3⟩
theorem W_cut1 (R : Env → Env → Prop) {a t : SM} {e : Env} {Q : Fl → Env → Prop} (h : @W _ (sSeq a sNil) e ⟨cutTo (R e) Q⟩) (h2 : ∀ e', R e e' → @W _ t e' ⟨Q⟩) : @W _ (sSeq a t) e ⟨Q⟩ := W_cutL (ms := [a]) (R e) h h2
theorem W_cut2 (R : Env → Env → Prop) {a b t : SM} {e : Env} {Q : Fl → Env → Prop} (h : @W _ (sSeq a (sSeq b sNil)) e ⟨cutTo (R e) Q⟩) (h2 : ∀ e', R e e' → @W _ t e' ⟨Q⟩) : @W _ (sSeq a (sSeq b t)) e ⟨Q⟩ := W_cutL (ms := [a, b]) (R e) h h2
theorem W_cut3 (R : Env → Env → Prop) {a b c t : SM} {e : Env} {Q : Fl → Env → Prop} (h : @W _ (sSeq a (sSeq b (sSeq c sNil))) e ⟨cutTo (R e) Q⟩) (h2 : ∀ e', R e e' → @W _ t e' ⟨Q⟩) : @W _ (sSeq a (sSeq b (sSeq c t))) e ⟨Q⟩ := W_cutL (ms := [a, b, c]) (R e) h h2
theorem W_cut4 (R : Env → Env → Prop) {a b c d t : SM} {e : Env} {Q : Fl → Env → Prop} (h : @W _ (sSeq a (sSeq b (sSeq c (sSeq d sNil)))) e ⟨cutTo (R e) Q⟩) (h2 : ∀ e', R e e' → @W _ t e' ⟨Q⟩) : @W _ (sSeq a (sSeq b (sSeq c (sSeq d t)))) e ⟨Q⟩ := W_cutL (ms := [a, b, c, d]) (R e) h h2
theorem W_cut5 (R : Env → Env → Prop) {a b c d f t : SM} {e : Env} {Q : Fl → Env → Prop} (h : @W _ (sSeq a (sSeq b (sSeq c (sSeq d (sSeq f sNil))))) e ⟨cutTo (R e) Q⟩) (h2 : ∀ e', R e e' → @W _ t e' ⟨Q⟩) : @W _ (sSeq a (sSeq b (sSeq c (sSeq d (sSeq f t))))) e ⟨Q⟩ := W_cutL (ms := [a, b, c, d, f]) (R e) h h2
theorem W_cut6 (R : Env → Env → Prop) {a b c d f g t : SM} {e : Env} {Q : Fl → Env → Prop} (h : @W _ (sSeq a (sSeq b (sSeq c (sSeq d (sSeq f (sSeq g sNil)))))) e ⟨cutTo (R e) Q⟩) (h2 : ∀ e', R e e' → @W _ t e' ⟨Q⟩) : @W _ (sSeq a (sSeq b (sSeq c (sSeq d (sSeq f (sSeq g t)))))) e ⟨Q⟩ := W_cutL (ms := [a, b, c, d, f, g]) (R e) h h2
theorem W_cut7 (R : Env → Env → Prop) {a b c d f g k t : SM} {e : Env} {Q : Fl → Env → Prop} (h : @W _ (sSeq a (sSeq b (sSeq c (sSeq d (sSeq f (sSeq g (sSeq k sNil))))))) e ⟨cutTo (R e) Q⟩) (h2 : ∀ e', R e e' → @W _ t e' ⟨Q⟩) : @W _ (sSeq a (sSeq b (sSeq c (sSeq d (sSeq f (sSeq g (sSeq k t))))))) e ⟨Q⟩ := W_cutL (ms := [a, b, c, d, f, g, k]) (R e) h h2
theorem W_cut8 (R : Env → Env → Prop) {a b c d f g k i t : SM} {e : Env} {Q : Fl → Env → Prop} (h : @W _ (sSeq a (sSeq b (sSeq c (sSeq d (sSeq f (sSeq g (sSeq k (sSeq i sNil)))))))) e ⟨cutTo (R e) Q⟩) (h2 : ∀ e', R e e' → @W _ t e' ⟨Q⟩) : @W _ (sSeq a (sSeq b (sSeq c (sSeq d (sSeq f (sSeq g (sSeq k (sSeq i t)))))))) e ⟨Q⟩ := W_cutL (ms := [a, b, c, d, f, g, k, i]) (R e) h h2
theorem mem_at {α : Type} {l : List α} {i : Nat} {a : α} (h : l[i]? = some a) : a ∈ l := List.mem_of_getElem? h
theorem lt_at {α : Type} {l : List α} {i : Nat} {a : α} (h : l[i]? = some a) : i < l.length := (List.getElem?_eq_some_iff.mp h).1
end PD
namespace PD
open PySem PySem.Spec PyProof.Rows L2
/-! ### max(xs), min(xs) of a list of numbers -/
def maxL (i : Int) (ns : List Int) : Int := ns.foldl (fun a b => if b > a then b else a) i
def minL (i : Int) (ns : List Int) : Int := ns.foldl (fun a b => if b < a then b else a) i
def maxLD : List D → Option Vl
  | [.lst ds] => match intsD ds with
    | some (i :: ns) => some (.im (.int (maxL i ns)))
    | _ => none
  | _ => none
def minLD : List D → Option Vl
  | [.lst ds] => match intsD ds with
    | some (i :: ns) => some (.im (.int (minL i ns)))
    | _ => none
  | _ => none
theorem maxL_of : ∀ (ns : List Int) (i : Int), (maxL i ns ∈ i :: ns) ∧ ∀ y ∈ i :: ns, y ≤ maxL i ns
  | [], i => ⟨List.mem_cons_self .., fun y hy => by rw [List.mem_singleton.mp hy]; exact Int.le_refl _⟩
  | n :: ns, i => by
    obtain ⟨h1, h2⟩ := maxL_of ns (if n > i then n else i)
    have e : maxL i (n :: ns) = maxL (if n > i then n else i) ns := rfl
    rw [e]
    refine ⟨?_, fun y hy => ?_⟩
    · rcases List.mem_cons.mp h1 with h | h
      · rw [h]
        split
        · exact List.mem_cons_of_mem _ (List.mem_cons_self ..)
        · exact List.mem_cons_self ..
      · exact List.mem_cons_of_mem _ (List.mem_cons_of_mem _ h)
    · have h0 := h2 _ (List.mem_cons_self ..)
      rcases List.mem_cons.mp hy with rfl | hy
      · split at h0 <;> split <;> omega
      · rcases List.mem_cons.mp hy with rfl | hy
        · split at h0 <;> split <;> omega
        · exact h2 y (List.mem_cons_of_mem _ hy)
theorem minL_of : ∀ (ns : List Int) (i : Int), (minL i ns ∈ i :: ns) ∧ ∀ y ∈ i :: ns, minL i ns ≤ y
  | [], i => ⟨List.mem_cons_self .., fun y hy => by rw [List.mem_singleton.mp hy]; exact Int.le_refl _⟩
  | n :: ns, i => by
    obtain ⟨h1, h2⟩ := minL_of ns (if n < i then n else i)
    have e : minL i (n :: ns) = minL (if n < i then n else i) ns := rfl
    rw [e]
    refine ⟨?_, fun y hy => ?_⟩
    · rcases List.mem_cons.mp h1 with h | h
      · rw [h]
        split
        · exact List.mem_cons_of_mem _ (List.mem_cons_self ..)
        · exact List.mem_cons_self ..
      · exact List.mem_cons_of_mem _ (List.mem_cons_of_mem _ h)
    · have h0 := h2 _ (List.mem_cons_self ..)
      rcases List.mem_cons.mp hy with rfl | hy
      · split at h0 <;> split <;> omega
      · rcases List.mem_cons.mp hy with rfl | hy
        · split at h0 <;> split <;> omega
        · exact h2 y (List.mem_cons_of_mem _ hy)
theorem ca_maxL {g : G0} : CaI g (.builtin "max") maxLD := by
  refine ⟨rMax g.K, fun c X hX => by rw [← hX.eK]; exact cr_max hX.calm, fun A B H vs env xs ds res Q S rr e q => ?_⟩
  unfold maxLD at e
  split at e
  · rename_i es
    split at e
    · rename_i i ns hs
      cases e
      obtain ⟨x, rfl, r1⟩ := pr1 rr
      obtain ⟨a, us, rfl, ha, ra⟩ := r1.lst S.same
      rw [intsD_map hs] at ra
      rw [ra.ints] at ha
      refine ⟨a, i :: ns, rfl, .of ha, by simp, fun m hm hle => ?_⟩
      obtain ⟨h1, h2⟩ := maxL_of ns i
      have := hle _ h1
      have := h2 m hm
      have e : m = maxL i ns := by omega
      rw [e]
      exact q B H _ (Same.refl _) (.im S (.int _))
    · cases e
  · cases e
theorem ca_minL {g : G0} : CaI g (.builtin "min") minLD := by
  refine ⟨rMin g.K, fun c X hX => by rw [← hX.eK]; exact cr_min hX.calm, fun A B H vs env xs ds res Q S rr e q => ?_⟩
  unfold minLD at e
  split at e
  · rename_i es
    split at e
    · rename_i i ns hs
      cases e
      obtain ⟨x, rfl, r1⟩ := pr1 rr
      obtain ⟨a, us, rfl, ha, ra⟩ := r1.lst S.same
      rw [intsD_map hs] at ra
      rw [ra.ints] at ha
      refine ⟨a, i :: ns, rfl, .of ha, by simp, fun m hm hle => ?_⟩
      obtain ⟨h1, h2⟩ := minL_of ns i
      have := hle _ h1
      have := h2 m hm
      have e : m = minL i ns := by omega
      rw [e]
      exact q B H _ (Same.refl _) (.im S (.int _))
    · cases e
  · cases e
theorem intsD_has {ds : List D} {lo hi : Int} (h : ∀ d ∈ ds, Has (.int lo hi) d) : ∃ ns : List Int, ds = ns.map D.int ∧ intsD ds = some ns ∧ ∀ n ∈ ns, lo ≤ n ∧ n ≤ hi := by
  induction ds with
  | nil => exact ⟨[], rfl, rfl, fun _ h => by simp at h⟩
  | cons d r ih =>
    obtain ⟨ns, h1, h2, h3⟩ := ih fun d hd => h d (List.mem_cons_of_mem _ hd)
    obtain ⟨i, rfl, h4, h5⟩ := h _ (List.mem_cons_self ..)
    refine ⟨i :: ns, by rw [h1]; rfl, ?_, fun n hn => ?_⟩
    · show (intsD r).map (i :: ·) = _
      rw [h2]
      rfl
    · rcases List.mem_cons.mp hn with rfl | hn
      · exact ⟨h4, h5⟩
      · exact h3 n hn
theorem max_has {ds : List D} {lo hi : Int} (h : ∀ d ∈ ds, Has (.int lo hi) d) (hl : 1 ≤ ds.length) : ∃ m : Int, maxLD [.lst ds] = some (.im (.int m)) ∧ D.int m ∈ ds ∧ ∀ i, D.int i ∈ ds → i ≤ m := by
  obtain ⟨ns, rfl, h2, h3⟩ := intsD_has h
  cases ns with
  | nil => simp at hl
  | cons i ns =>
    obtain ⟨m1, m2⟩ := maxL_of ns i
    refine ⟨maxL i ns, ?_, List.mem_map.mpr ⟨_, m1, rfl⟩, fun j hj => ?_⟩
    · show (match intsD ((i :: ns).map D.int) with | some (i :: ns) => some (Vl.im (.int (maxL i ns))) | _ => none) = _
      rw [h2]
    · obtain ⟨k, hk, e⟩ := List.mem_map.mp hj
      cases e
      exact m2 _ hk
/-! ### d.get(k), d.get(k, x) (x no list) -/
def getKD : List D → Option Vl
  | [.dk es, k] => (keyD k).map fun k => .im ((getK es k).getD .non)
  | [.dk es, k, x] => if flatD x = true then (keyD k).map fun k => .im ((getK es k).getD x) else none
  | [.dt es, .tup ks] => (keysD ks).map fun k => .im ((getK es k).getD .non)
  | [.dt es, .tup ks, x] => if flatD x = true then (keysD ks).map fun k => .im ((getK es k).getD x) else none
  | _ => none
def rGet : V → List V → Hp → VK → Prop := fun x ys H Q => ∃ a o, x = .ref a ∧ ((∃ y, ys = [y] ∧ DGet H a y o ∧ Q (o.getD .non) H) ∨ ∃ y z, ys = [y, z] ∧ DGet H a y o ∧ Q (o.getD z) H)
theorem mt_get {X : Cx} (hu : X.A.units + 1 < cLine) : MtR X "dict.get" rGet := by
  intro pins s σ H x xs v us Q I rx rs h
  obtain ⟨a, o, rfl, h⟩ := h
  obtain rfl : v = Value.ref a := rx
  rcases h with ⟨y, rfl, g, q⟩ | ⟨y, z, rfl, g, q⟩
  · obtain ⟨u, rfl, ru⟩ := vals1 rs
    exact d_get1 hu I g ru fun w' s' I' r => ⟨_, H, I', r, q⟩
  · cases rs with
    | cons r1 t =>
      cases t with
      | cons r2 t =>
        cases t
        exact d_get2 hu I g r1 r2 fun w' s' I' r => ⟨_, H, I', r, q⟩
section
variable {K : PySem.W.Frag} {B : Hp} {κ : Type} [DecidableEq κ]
theorem getK_rp {es : List (κ × D)} {kvs : List (κ × V)} {k : κ} {d : D} {v : V} (h1 : es.map (·.1) = kvs.map (·.1)) (h2 : Rps K B (es.map (·.2)) (kvs.map (·.2))) (r : Rp K B d v) : Rp K B ((getK es k).getD d) ((valV kvs k).getD v) := by
  obtain ⟨g1, g2⟩ := getK_val (k := k) h1 h2
  cases hg : getK es k with
  | none =>
    rw [g2 hg]
    exact r
  | some x =>
    obtain ⟨w, h3, h4⟩ := g1 x hg
    rw [h3]
    exact h4
end
theorem me_get {g : G0} : MeI g "dict" "get" "dict.get" getKD := ⟨F.plainAttrs_dict, F.slot_dict_get, F.type_dict_get, _, fun c X hX => mt_get (by have := hX.room.un; omega), fun A B H vs env xs ds res Q S rr e q => by
  unfold getKD at e
  split at e
  · rename_i es kd
    cases hk : keyD kd with
    | none =>
      rw [hk] at e
      cases e
    | some k =>
      rw [hk] at e
      cases e
      obtain ⟨x, y, rfl, r1, r2⟩ := pr2 rr
      obtain ⟨a, kvs, rfl, ha, he, hr⟩ := r1.dk S.same
      rw [r2.key hk]
      exact ⟨a, valV kvs k, rfl, .inl ⟨_, rfl, .k ha, q B H _ (Same.refl _) (.im S (getK_rp he hr .non))⟩⟩
  · rename_i es kd x
    split at e
    · rename_i hf
      cases hk : keyD kd with
      | none =>
        rw [hk] at e
        cases e
      | some k =>
        rw [hk] at e
        cases e
        obtain ⟨x, y, z, rfl, r1, r2, r3⟩ := pr3 rr
        obtain ⟨a, kvs, rfl, ha, he, hr⟩ := r1.dk S.same
        rw [r2.key hk]
        exact ⟨a, valV kvs k, rfl, .inr ⟨_, _, rfl, .k ha, q B H _ (Same.refl _) (.im S (getK_rp he hr (r3.flat hf)))⟩⟩
    · cases e
  · rename_i es ks
    cases hk : keysD ks with
    | none =>
      rw [hk] at e
      cases e
    | some k =>
      rw [hk] at e
      cases e
      obtain ⟨x, y, rfl, r1, r2⟩ := pr2 rr
      obtain ⟨a, kvs, rfl, ha, he, hr⟩ := r1.dt S.same
      obtain ⟨b, us, rfl, hb, tb, rb⟩ := r2.tup S.same
      rw [rb.keys hk] at hb
      exact ⟨a, valV kvs k, rfl, .inl ⟨_, rfl, .t ha hb, q B H _ (Same.refl _) (.im S (getK_rp he hr .non))⟩⟩
  · rename_i es ks x
    split at e
    · rename_i hf
      cases hk : keysD ks with
      | none =>
        rw [hk] at e
        cases e
      | some k =>
        rw [hk] at e
        cases e
        obtain ⟨x, y, z, rfl, r1, r2, r3⟩ := pr3 rr
        obtain ⟨a, kvs, rfl, ha, he, hr⟩ := r1.dt S.same
        obtain ⟨b, us, rfl, hb, tb, rb⟩ := r2.tup S.same
        rw [rb.keys hk] at hb
        exact ⟨a, valV kvs k, rfl, .inr ⟨_, _, rfl, .t ha hb, q B H _ (Same.refl _) (.im S (getK_rp he hr (r3.flat hf)))⟩⟩
    · cases e
  · cases e⟩
end PD
namespace PD
open PySem PySem.Spec PyProof.Rows L2
/-! ### repr of data of a shape -/
mutual
def Ty.wt : Ty → Nat
  | .int _ _ => 2000
  | .bl => 5
  | .str n => 10 * n + 2
  | .tup ts => tyWts ts + 4
  | .tv t n => n * (t.wt + 2) + 4
  | .lst t n => n * (t.wt + 2) + 4
  | .un t u => max t.wt u.wt
  | .bt t n => n * (t.wt + 2) + 4
  | .non => 4
def tyWts : List Ty → Nat
  | [] => 0
  | t :: ts => t.wt + 2 + tyWts ts
end
mutual
def Ty.shw : Ty → Bool
  | .int lo hi => decide (-1000000000000000000000000 ≤ lo) && decide (hi ≤ 1000000000000000000000000)
  | .bl => true
  | .str _ => true
  | .tup ts => tyShws ts
  | .tv t _ => t.shw
  | .lst t _ => t.shw
  | .un t u => t.shw && u.shw
  | .bt t _ => t.shw
  | .non => true
def tyShws : List Ty → Bool
  | [] => true
  | t :: ts => t.shw && tyShws ts
end
theorem intB_small {i : Int} (h0 : -1000000000000000000000000 ≤ i) (h1 : i ≤ 1000000000000000000000000) : intB i = true := by
  refine decide_eq_true ?_
  by_cases h : i.natAbs = 0
  · rw [h]
    decide
  · rw [Nat.log2_lt h]
    have : i.natAbs ≤ 1000000000000000000000000 := by omega
    have h2 : (1000000000000000000000000 : Nat) < 2 ^ 1920 := by decide +kernel
    omega
theorem wts_of {t : Ty} {n : Nat} : ∀ {ds : List D}, (∀ e ∈ ds, e.shw = true ∧ e.wt ≤ n) → shws ds = true ∧ wts ds ≤ ds.length * (n + 2)
  | [], _ => ⟨rfl, by simp [wts]⟩
  | d :: ds, h => by
    obtain ⟨h1, h2⟩ := wts_of (t := t) (ds := ds) fun e he => h e (List.mem_cons_of_mem _ he)
    obtain ⟨h3, h4⟩ := h d (List.mem_cons_self ..)
    refine ⟨by simp [shws, h1, h3], ?_⟩
    simp only [wts, List.length_cons, Nat.add_mul, Nat.one_mul]
    omega
mutual
theorem Has.shows : ∀ {t : Ty} {d : D}, t.shw = true → Has t d → d.shw = true ∧ d.wt ≤ t.wt
  | .int lo hi, d, hs, h => by
    obtain ⟨i, rfl, h1, h2⟩ := h
    rw [Ty.shw, Bool.and_eq_true, decide_eq_true_eq, decide_eq_true_eq] at hs
    exact ⟨intB_small (by omega) (by omega), by simp [D.wt, Ty.wt]⟩
  | .bl, d, hs, h => by
    obtain ⟨i, rfl⟩ := h
    simp [D.shw, D.wt, Ty.wt]
  | .str n, d, hs, h => by
    obtain ⟨x, rfl, hx⟩ := h
    have := hx.1
    refine ⟨rfl, ?_⟩
    simp only [D.wt, Ty.wt]
    omega
  | .tup ts, d, hs, h => by
    obtain ⟨ds, rfl, h⟩ := h
    obtain ⟨h1, h2⟩ := HasL.shows (by simpa [Ty.shw] using hs) h
    refine ⟨by simpa [D.shw] using h1, ?_⟩
    simp only [D.wt, Ty.wt]
    omega
  | .tv t n, d, hs, h => by
    obtain ⟨ds, rfl, hl, h⟩ := h
    obtain ⟨h1, h2⟩ := wts_of (t := t) (n := t.wt) fun e he => Has.shows (by simpa [Ty.shw] using hs) (h e he)
    refine ⟨by simpa [D.shw] using h1, ?_⟩
    simp only [D.wt, Ty.wt]
    have := Nat.mul_le_mul_right (t.wt + 2) hl
    omega
  | .bt t n, d, hs, h => by
    obtain ⟨ds, rfl, hl, h⟩ := h
    obtain ⟨h1, h2⟩ := wts_of (t := t) (n := t.wt) fun e he => Has.shows (by simpa [Ty.shw] using hs) (h e he)
    refine ⟨by simpa [D.shw] using h1, ?_⟩
    simp only [D.wt, Ty.wt]
    have := Nat.mul_le_mul_right (t.wt + 2) hl
    omega
  | .non, d, hs, h => by
    have h : d = .non := h
    subst h
    simp [D.shw, D.wt, Ty.wt]
  | .lst t n, d, hs, h => by
    obtain ⟨ds, rfl, hl, h⟩ := h
    obtain ⟨h1, h2⟩ := wts_of (t := t) (n := t.wt) fun e he => Has.shows (by simpa [Ty.shw] using hs) (h e he)
    refine ⟨by simpa [D.shw] using h1, ?_⟩
    simp only [D.wt, Ty.wt]
    have := Nat.mul_le_mul_right (t.wt + 2) hl
    omega
  | .un t u, d, hs, h => by
    rw [Ty.shw, Bool.and_eq_true] at hs
    rcases (h : Has t d ∨ Has u d) with h | h
    · obtain ⟨h1, h2⟩ := Has.shows hs.1 h
      exact ⟨h1, by simp only [Ty.wt]; omega⟩
    · obtain ⟨h1, h2⟩ := Has.shows hs.2 h
      exact ⟨h1, by simp only [Ty.wt]; omega⟩
theorem HasL.shows : ∀ {ts : List Ty} {ds : List D}, tyShws ts = true → HasL ts ds → shws ds = true ∧ wts ds ≤ tyWts ts
  | [], ds, _, h => by
    have h : ds = [] := h
    subst h
    simp [shws, wts, tyWts]
  | t :: ts, ds, hs, h => by
    obtain ⟨d, r, rfl, h1, h2⟩ := h
    rw [tyShws, Bool.and_eq_true] at hs
    obtain ⟨f1, f2⟩ := Has.shows hs.1 h1
    obtain ⟨g1, g2⟩ := HasL.shows hs.2 h2
    refine ⟨by simp [shws, f1, g1], ?_⟩
    simp only [wts, tyWts]
    omega
end
theorem repr_ok {t : Ty} {d : D} (h : Has t d) (hs : t.shw = true) (hw : t.wt ≤ 16777216) (hd : t.dep ≤ 60) : reprD [d] = some (.im (.txt d.py.shown)) := by
  obtain ⟨h1, h2⟩ := h.shows hs
  have e : (d.shw && small d.wt && depB 60 d) = true := by
    rw [h1, small_lit (by omega), has_dep h 60 hd]
    rfl
  rw [reprD, if_pos e]
theorem neD_txt (x y : Str) : neD [.txt x, .txt y] = some (.im (.bl (!decide (x = y)))) := rfl
theorem eqD_txt (x y : Str) : eqD [.txt x, .txt y] = some (.im (.bl (decide (x = y)))) := rfl
theorem calm_em : calmS (some .em) = true := rfl
theorem calm_im {d : D} : calmS (some (.im d)) = true := rfl
theorem calm_none : calmS none = true := rfl
/-! the first thing of a filter -/
theorem filter_head {α : Type} {p : α → Bool} {l : List α} (h : ∃ a ∈ l, p a = true) : ∃ a r, l.filter p = a :: r ∧ a ∈ l ∧ p a = true := by
  obtain ⟨a, h1, h2⟩ := h
  cases hf : l.filter p with
  | nil =>
    have : a ∈ l.filter p := List.mem_filter.mpr ⟨h1, h2⟩
    rw [hf] at this
    simp at this
  | cons b r =>
    have : b ∈ l.filter p := by rw [hf]; exact List.mem_cons_self ..
    obtain ⟨h3, h4⟩ := List.mem_filter.mp this
    exact ⟨b, r, rfl, h3, h4⟩
/-- a tuple whose first thing is the text x -/
def pN (x : Str) : D → Bool
  | .tup (.str y :: _) => decide (y = x)
  | _ => false
theorem pN_tup (x y : Str) (r : List D) : pN x (.tup (.str y :: r)) = decide (y = x) := rfl
end PD
/-! ### zip over any two things, its tuples kept: as dict's and list's argument -/
namespace PDZ
open PySem PySem.Spec
section
variable {prog : Program} {w : World} {A : Around} {E : Value → Shared → Prop} {s : Shared} {zz ti tq j1 j2 T : Addr} {f1 f2 : List Addr} {n1 n2 i : Nat} {P1 P2 : Nat → Value → Prop} {St1 St2 : Nat → Heap → Prop} {fl : Bool} {oT : Obj}
theorem held_item {Q : Value → Shared → Prop} (S : ZipSep2 zz ti tq j1 j2 f1 f2) (D1 : Draws prog w A j1 f1 n1 P1 St1) (D2 : Draws prog w A j2 f2 n2 P2 St2)
    (kz : IsZipHeld s.heap zz ti tq T fl) (kT : s.heap.get? T = some oT) (kI : IsTupOf2 s.heap ti (.ref j1) (.ref j2)) (u1 : St1 i s.heap) (u2 : St2 i s.heap) (l1 : i < n1) (l2 : i < n2)
    (hQ : ∀ x1 x2 h' tk, P1 i x1 → P2 i x2 → IsZipHeld h' zz ti tq T true → St1 (i + 1) h' → St2 (i + 1) h' → IsTupOf2 h' s.heap.objs.size x1 x2 → h'.objs.size = s.heap.objs.size + 1 →
      (∀ c o, c ≠ zz → c ≠ j1 → c ≠ j2 → s.heap.get? c = some o → h'.get? c = some o) → Q (.ref s.heap.objs.size) { s with heap := h', toks := tk }) :
    wpAny (model prog w) A (Builtin.«zip.__next__» ⟨[.ref zz], []⟩) (fun fin s' => ∃ v, fin = .done (.ret v) ∧ Q v s') E s := by
  obtain ⟨hp, gg, dd, tk0, os⟩ := s
  show wpAny _ _ (field (.ref zz) 2 >>= _) _ _ _
  refine wpAny_bind (wpAny_field kz rfl (x := .bool false) rfl ?_)
  show wpAny _ _ (field (.ref zz) 3 >>= _) _ _ _
  refine wpAny_bind (wpAny_field kz rfl (x := .ref ti) rfl ?_)
  refine wpAny_bind (wpAny_seqItems kI rfl ?_)
  show wpAny _ _ (Builtin.SmallTypes.ownedTupleIsFree (.ref zz) >>= _) _ _ _
  refine wpAny_bind (wpAny_tupleHeld_zip kz kT fun g0 kz0 ks0 => ?_)
  replace ks0 : Heap.SameBut zz hp g0 := ks0
  simp only [Bool.false_eq_true, if_false]
  refine wpAny_bind ?_
  rw [← Array.forIn_toList]
  simp only [List.forIn_cons, List.forIn_nil]
  refine wpAny_bind (wpAny_bind (wpAny_holding ?_))
  show wpAny _ _ (Builtin.SmallTypes.nextOf (.ref j1) >>= _) _ _ ⟨g0, gg, dd, tk0, os⟩
  refine wpAny_bind (D1.item i _ _ _ l1 (D1.over u1 ks0 S.zf1) fun x1 p1 tk1 y1 v1 kp1 => wpAny_pure ?_)
  replace kp1 : Heap.SameBut j1 g0 p1 := kp1
  refine wpAny_pure ?_
  refine wpAny_bind (wpAny_bind (wpAny_holding ?_))
  show wpAny _ _ (Builtin.SmallTypes.nextOf (.ref j2) >>= _) _ _ ⟨p1, gg, dd, tk1, os⟩
  refine wpAny_bind (D2.item i _ _ _ l2 (D2.over (D2.over u2 ks0 S.zf2) kp1 S.sep1_2) fun x2 p2 tk2 y2 v2 kp2 => wpAny_pure ?_)
  replace kp2 : Heap.SameBut j2 p1 p2 := kp2
  refine wpAny_pure (wpAny_pure ?_)
  show wpAny _ _ (newTuple [x1, x2] >>= _) _ _ ⟨p2, gg, dd, tk2, os⟩
  refine wpAny_bind (wpAny_newTuple ?_)
  have esz : p2.objs.size = hp.objs.size := by rw [kp2.1, kp1.1, ks0.1]
  have kz2 : IsZipHeld p2 zz ti tq T true := kp2.extBut _ _ S.zi2 (kp1.extBut _ _ S.zi1 kz0)
  have kk : ∀ c o, c ≠ zz → c ≠ j1 → c ≠ j2 → hp.get? c = some o → p2.get? c = some o := fun c o c1 c2 c3 e => kp2.extBut _ _ c3 (kp1.extBut _ _ c2 (ks0.extBut _ _ c1 e))
  have w1 : St1 (i + 1) p2 := D1.over v1 kp2 S.sep2_1
  refine wpAny_pure ⟨_, rfl, ?_⟩
  show Q (.ref p2.objs.size) ⟨p2.push { cls := .type "tuple", data := .seq #[x1, x2] }, gg, dd, tk2, os⟩
  have kn : IsTupOf2 (p2.push { cls := .type "tuple", data := .seq #[x1, x2] }) p2.objs.size x1 x2 := Heap.get?_push_size _ rfl
  have kn2 : (p2.push { cls := .type "tuple", data := .seq #[x1, x2] }).objs.size = p2.objs.size + 1 := Heap.size_push ..
  rw [esz] at kn kn2 ⊢
  exact hQ x1 x2 _ tk2 y1 y2 (Heap.get?_push_of_some _ kz2) (D1.frame _ _ _ w1 fun b _ o e => Heap.get?_push_of_some _ e) (D2.frame _ _ _ v2 fun b _ o e => Heap.get?_push_of_some _ e) kn kn2 fun c o c1 c2 c3 e => Heap.get?_push_of_some _ (kk c o c1 c2 c3 e)
theorem held_end {Q : Fin → Shared → Prop} (S : ZipSep2 zz ti tq j1 j2 f1 f2) (D1 : Draws prog w A j1 f1 n1 P1 St1) (D2 : Draws prog w A j2 f2 n2 P2 St2)
    (kz : IsZipHeld s.heap zz ti tq T fl) (kT : s.heap.get? T = some oT) (kI : IsTupOf2 s.heap ti (.ref j1) (.ref j2)) (u1 : St1 i s.heap) (u2 : St2 i s.heap) (l1 : i ≤ n1) (l2 : i ≤ n2) (le : i = n1 ∨ i = n2)
    (hE : ∀ h' tk e, (∀ c o, c ≠ zz → c ≠ j1 → c ≠ j2 → s.heap.get? c = some o → h'.get? c = some o) → (∃ o, h'.get? e = some o ∧ o.cls = .type "StopIteration") → E (.ref e) { s with heap := h', toks := tk }) :
    wpAny (model prog w) A (Builtin.«zip.__next__» ⟨[.ref zz], []⟩) Q E s := by
  obtain ⟨hp, gg, dd, tk0, os⟩ := s
  show wpAny _ _ (field (.ref zz) 2 >>= _) _ _ _
  refine wpAny_bind (wpAny_field kz rfl (x := .bool false) rfl ?_)
  show wpAny _ _ (field (.ref zz) 3 >>= _) _ _ _
  refine wpAny_bind (wpAny_field kz rfl (x := .ref ti) rfl ?_)
  refine wpAny_bind (wpAny_seqItems kI rfl ?_)
  show wpAny _ _ (Builtin.SmallTypes.ownedTupleIsFree (.ref zz) >>= _) _ _ _
  refine wpAny_bind (wpAny_tupleHeld_zip kz kT fun g0 kz0 ks0 => ?_)
  replace ks0 : Heap.SameBut zz hp g0 := ks0
  simp only [Bool.false_eq_true, if_false]
  refine wpAny_bind ?_
  rw [← Array.forIn_toList]
  simp only [List.forIn_cons, List.forIn_nil]
  refine wpAny_bind (wpAny_bind (wpAny_holding ?_))
  show wpAny _ _ (Builtin.SmallTypes.nextOf (.ref j1) >>= _) _ _ ⟨g0, gg, dd, tk0, os⟩
  by_cases c1 : i < n1
  · refine wpAny_bind (D1.item i _ _ _ c1 (D1.over u1 ks0 S.zf1) fun x1 p1 tk1 y1 v1 kp1 => wpAny_pure ?_)
    replace kp1 : Heap.SameBut j1 g0 p1 := kp1
    have i2 : i = n2 := by omega
    refine wpAny_pure ?_
    refine wpAny_bind (wpAny_bind (wpAny_holding ?_))
    show wpAny _ _ (Builtin.SmallTypes.nextOf (.ref j2) >>= _) _ _ ⟨p1, gg, dd, tk1, os⟩
    refine wpAny_bind (D2.done ⟨p1, gg, dd, tk1, os⟩ _ _ (by rw [← i2]; exact D2.over (D2.over u2 ks0 S.zf2) kp1 S.sep1_2) fun q e kq ke => ?_)
    exact hE q tk1 e (fun c o c1 c2 c3 x => kq _ _ c3 (kp1.extBut _ _ c2 (ks0.extBut _ _ c1 x))) ke
  · have i1 : i = n1 := by omega
    refine wpAny_bind (D1.done ⟨g0, gg, dd, tk0, os⟩ _ _ (by rw [← i1]; exact D1.over u1 ks0 S.zf1) fun q e kq ke => ?_)
    exact hE q tk0 e (fun c o c1 c2 c3 x => kq _ _ c2 (ks0.extBut _ _ c1 x)) ke
theorem next_held_item {Q : Option Value → Shared → Prop} (S : ZipSep2 zz ti tq j1 j2 f1 f2) (D1 : Draws prog w A.in1 j1 f1 n1 P1 St1) (D2 : Draws prog w A.in1 j2 f2 n2 P2 St2)
    (kz : IsZipHeld s.heap zz ti tq T fl) (kT : s.heap.get? T = some oT) (kI : IsTupOf2 s.heap ti (.ref j1) (.ref j2)) (u1 : St1 i s.heap) (u2 : St2 i s.heap) (l1 : i < n1) (l2 : i < n2)
    (hQ : ∀ x1 x2 h' tk, P1 i x1 → P2 i x2 → IsZipHeld h' zz ti tq T true → St1 (i + 1) h' → St2 (i + 1) h' → IsTupOf2 h' s.heap.objs.size x1 x2 → h'.objs.size = s.heap.objs.size + 1 →
      (∀ c o, c ≠ zz → c ≠ j1 → c ≠ j2 → s.heap.get? c = some o → h'.get? c = some o) → Q (some (.ref s.heap.objs.size)) { s with heap := h', toks := tk }) :
    wpAny (model prog w) A (pyNext (.ref zz)) Q E s := by
  have ty : s.TypeIs (.ref zz) "zip" := ⟨_, kz, rfl⟩
  unfold pyNext
  exact wpAny_bind (wpAny_attempt (wpAny_callSpecial?_slot (name := Str.ofString "__next__") ty F.slot_zip_next (wpAny_call_entry F.slot_zip_next ty F.entry_zip_next
    (held_item S D1 D2 kz kT kI u1 u2 l1 l2 fun x1 x2 h' tk a1 a2 a3 a4 a5 a6 a7 a8 => wpAny_pure (hQ x1 x2 h' tk a1 a2 a3 a4 a5 a6 a7 a8)) (F.args_zip_next_1 _))))
theorem next_held_end {Q : Option Value → Shared → Prop} (S : ZipSep2 zz ti tq j1 j2 f1 f2) (D1 : Draws prog w A.in1 j1 f1 n1 P1 St1) (D2 : Draws prog w A.in1 j2 f2 n2 P2 St2)
    (kz : IsZipHeld s.heap zz ti tq T fl) (kT : s.heap.get? T = some oT) (kI : IsTupOf2 s.heap ti (.ref j1) (.ref j2)) (u1 : St1 i s.heap) (u2 : St2 i s.heap) (l1 : i ≤ n1) (l2 : i ≤ n2) (le : i = n1 ∨ i = n2)
    (hQ : ∀ h' tk, (∀ c o, c ≠ zz → c ≠ j1 → c ≠ j2 → s.heap.get? c = some o → h'.get? c = some o) → Q none { s with heap := h', toks := tk }) : wpAny (model prog w) A (pyNext (.ref zz)) Q E s := by
  have ty : s.TypeIs (.ref zz) "zip" := ⟨_, kz, rfl⟩
  unfold pyNext
  refine wpAny_bind (wpAny_attempt (wpAny_callSpecial?_slot (name := Str.ofString "__next__") ty F.slot_zip_next (wpAny_call_entry F.slot_zip_next ty F.entry_zip_next
    (held_end S D1 D2 kz kT kI u1 u2 l1 l2 le fun h' tk e hk ke => ?_) (F.args_zip_next_1 _))))
  obtain ⟨o, ko, kc⟩ := ke
  refine wpAny_bind (wpAny_isInstance (T := "StopIteration") (b := true) ⟨o, ko, kc⟩ isSubtype_stop ?_)
  exact wpAny_pure (hQ _ _ hk)
/-- where a zip stands behind i turns, its tuples kept -/
def ZSt (zz ti tq j1 j2 : Addr) (St1 St2 : Nat → Heap → Prop) (bad : List Addr) (i : Nat) (h : Heap) : Prop :=
  IsTupOf2 h ti (.ref j1) (.ref j2) ∧ St1 i h ∧ St2 i h ∧ ((IsZip h zz ti tq .none ∧ ∃ a b, IsTupOf2 h tq a b) ∨ ∃ T f oT, IsZipHeld h zz ti tq T f ∧ h.get? T = some oT ∧ T ≠ zz ∧ T ≠ j1 ∧ T ≠ j2 ∧ T ∉ bad)
theorem zst_item {bad : List Addr} {Q : Option Value → Shared → Prop} (S : ZipSep2 zz ti tq j1 j2 f1 f2) (D1 : Draws prog w A.in1 j1 f1 n1 P1 St1) (D2 : Draws prog w A.in1 j2 f2 n2 P2 St2) (l1 : i < n1) (l2 : i < n2)
    (st : ZSt zz ti tq j1 j2 St1 St2 bad i s.heap) (hb : ∀ b ∈ bad, b < s.heap.objs.size)
    (hQ : ∀ x1 x2 h' tk, P1 i x1 → P2 i x2 → IsTupOf2 h' s.heap.objs.size x1 x2 → ZSt zz ti tq j1 j2 St1 St2 bad (i + 1) h' → s.heap.objs.size < h'.objs.size → (∀ c o, c ≠ zz → c ≠ tq → c ≠ j1 → c ≠ j2 → s.heap.get? c = some o → h'.get? c = some o) → Q (some (.ref s.heap.objs.size)) { s with heap := h', toks := tk }) :
    wpAny (model prog w) A (pyNext (.ref zz)) Q E s := by
  obtain ⟨kI, u1, u2, st⟩ := st
  have lt : ∀ {c o}, s.heap.get? c = some o → s.heap.objs.size ≠ c := fun e => Nat.ne_of_gt (Heap.lt_size e)
  have m1 : s.heap.objs.size ≠ j1 := let ⟨_, e⟩ := D1.live i _ u1; lt e
  have m2 : s.heap.objs.size ≠ j2 := let ⟨_, e⟩ := D2.live i _ u2; lt e
  have mb : s.heap.objs.size ∉ bad := fun h => absurd (hb _ h) (Nat.lt_irrefl _)
  rcases st with ⟨kz, a, b, kO⟩ | ⟨T, f, oT, kz, kT, r1, r2, r3, r4⟩
  · refine wpAny_pyNext_zipD2_item S D1 D2 kz kI kO u1 u2 l1 l2 fun x1 x2 h' tk a1 a2 a3 a4 a5 a6 a7 a8 hk => ?_
    exact hQ x1 x2 h' tk a1 a2 a7 ⟨hk _ _ S.TIz S.TITO S.TIi1 S.TIi2 kI, a5, a6, .inr ⟨s.heap.objs.size, false, _, a3, a7, lt kz, m1, m2, mb⟩⟩ (by rw [a8]; exact Nat.lt_succ_self _) hk
  · refine next_held_item S D1 D2 kz kT kI u1 u2 l1 l2 fun x1 x2 h' tk a1 a2 a3 a4 a5 a6 a7 hk => ?_
    exact hQ x1 x2 h' tk a1 a2 a6 ⟨hk _ _ S.TIz S.TIi1 S.TIi2 kI, a4, a5, .inr ⟨T, true, oT, a3, hk _ _ r1 r2 r3 kT, r1, r2, r3, r4⟩⟩ (by rw [a7]; exact Nat.lt_succ_self _) fun c o c1 _ c3 c4 e => hk c o c1 c3 c4 e
theorem zst_end {bad : List Addr} {Q : Option Value → Shared → Prop} (S : ZipSep2 zz ti tq j1 j2 f1 f2) (D1 : Draws prog w A.in1 j1 f1 n1 P1 St1) (D2 : Draws prog w A.in1 j2 f2 n2 P2 St2) (l1 : i ≤ n1) (l2 : i ≤ n2) (le : i = n1 ∨ i = n2)
    (st : ZSt zz ti tq j1 j2 St1 St2 bad i s.heap) (hQ : ∀ h' tk, (∀ c o, c ≠ zz → c ≠ tq → c ≠ j1 → c ≠ j2 → s.heap.get? c = some o → h'.get? c = some o) → Q none { s with heap := h', toks := tk }) :
    wpAny (model prog w) A (pyNext (.ref zz)) Q E s := by
  obtain ⟨kI, u1, u2, st⟩ := st
  rcases st with ⟨kz, a, b, kO⟩ | ⟨T, f, oT, kz, kT, r1, r2, r3, r4⟩
  · exact wpAny_pyNext_zipD2_end S D1 D2 kz kI kO u1 u2 l1 l2 le hQ
  · exact next_held_end S D1 D2 kz kT kI u1 u2 l1 l2 le fun h' tk hk => hQ h' tk fun c o c1 _ c3 c4 e => hk c o c1 c3 c4 e
theorem zst_frame {bad : List Addr} {h h' : Heap} (D1 : Draws prog w A j1 f1 n1 P1 St1) (D2 : Draws prog w A j2 f2 n2 P2 St2) (m1 : j1 ∈ f1) (m2 : j2 ∈ f2) (st : ZSt zz ti tq j1 j2 St1 St2 bad i h)
    (hk : ∀ b o, b ∉ bad → h.get? b = some o → h'.get? b = some o) (b1 : zz ∉ bad) (b2 : ti ∉ bad) (b3 : tq ∉ bad) (b4 : ∀ b ∈ f1, b ∉ bad) (b5 : ∀ b ∈ f2, b ∉ bad) : ZSt zz ti tq j1 j2 St1 St2 bad i h' := by
  obtain ⟨kI, u1, u2, st⟩ := st
  refine ⟨hk _ _ b2 kI, D1.frame _ _ _ u1 fun b hb o e => hk b o (b4 b hb) e, D2.frame _ _ _ u2 fun b hb o e => hk b o (b5 b hb) e, ?_⟩
  rcases st with ⟨kz, a, b, kO⟩ | ⟨T, f, oT, kz, kT, r1, r2, r3, r4⟩
  · exact .inl ⟨hk _ _ b1 kz, a, b, hk _ _ b3 kO⟩
  · exact .inr ⟨T, f, oT, hk _ _ b1 kz, hk _ _ r4 kT, r1, r2, r3, r4⟩
end
end PDZ
/-! ### dict(zip(x, y)), list(zip(x, y)) at the library's level -/
namespace PDZ
open PySem PySem.Spec
section
variable {prog : Program} {w : World} {zz ti tq j1 j2 : Addr} {f1 f2 : List Addr} {n1 n2 : Nat} {P1 P2 : Nat → Value → Prop} {St1 St2 : Nat → Heap → Prop}
/-- a zip just made -/
def ZNew (zz ti tq j1 j2 : Addr) (St1 St2 : Nat → Heap → Prop) (h : Heap) : Prop :=
  IsZip h zz ti tq .none ∧ IsTupOf2 h ti (.ref j1) (.ref j2) ∧ (∃ a b, IsTupOf2 h tq a b) ∧ St1 0 h ∧ St2 0 h
theorem ZNew.zst {h : Heap} {bad : List Addr} (z : ZNew zz ti tq j1 j2 St1 St2 h) : ZSt zz ti tq j1 j2 St1 St2 bad 0 h := ⟨z.2.1, z.2.2.2.1, z.2.2.2.2, .inl ⟨z.1, z.2.2.1⟩⟩
theorem pairZip (S : ZipSep2 zz ti tq j1 j2 f1 f2) (D1 : ∀ A : Around, A.handled = none → Draws prog w A j1 f1 n1 P1 St1) (D2 : ∀ A : Around, A.handled = none → Draws prog w A j2 f2 n2 P2 St2)
    (t1 : ∀ h, St1 0 h → ∀ b ∈ f1, ∃ o, h.get? b = some o) (t2 : ∀ h, St2 0 h → ∀ b ∈ f2, ∃ o, h.get? b = some o) (A0 : Around) (hA0 : A0.handled = none) :
    PairArg prog w "zip" zz (zz :: ti :: tq :: (f1 ++ f2)) [zz, tq, j1, j2] (min n1 n2) (fun i k v => P1 i k ∧ P2 i v) (ZNew zz ti tq j1 j2 St1 St2) where
  type := fun s ok => ⟨_, ok.1, rfl⟩
  notDict := by decide
  keep := fun h h' ok hk => by
    obtain ⟨kz, kI, ⟨a, b, kO⟩, u1, u2⟩ := ok
    exact ⟨hk _ _ kz, hk _ _ kI, ⟨a, b, hk _ _ kO⟩, (D1 A0 hA0).frame _ _ _ u1 fun b _ o e => hk b o e, (D2 A0 hA0).frame _ _ _ u2 fun b _ o e => hk b o e⟩
  there := fun h ok b hb => by
    obtain ⟨kz, kI, ⟨x, y, kO⟩, u1, u2⟩ := ok
    rcases List.mem_cons.mp hb with rfl | hb
    · exact ⟨_, kz⟩
    rcases List.mem_cons.mp hb with rfl | hb
    · exact ⟨_, kI⟩
    rcases List.mem_cons.mp hb with rfl | hb
    · exact ⟨_, kO⟩
    rcases List.mem_append.mp hb with hb | hb
    · exact t1 h u1 b hb
    · exact t2 h u2 b hb
  sub := fun b hb => by
    have hb : b = zz ∨ b = tq ∨ b = j1 ∨ b = j2 := by simpa using hb
    rcases hb with rfl | rfl | rfl | rfl
    · simp
    · simp
    · simp [S.mem1]
    · simp [S.mem2]
  noKeys := fun A s Q E hA ok h => getAttrOr_miss_zip ok.1 rfl rfl rfl zip_no_keys (by decide +kernel) hA h
  iter := fun A s d Q E hA ok hd hdf h => by
    have d0 : d ≠ zz := fun e => hdf (by simp [e])
    have dI : d ≠ ti := fun e => hdf (by simp [e])
    have dO : d ≠ tq := fun e => hdf (by simp [e])
    have g1 : ∀ b ∈ f1, b ∉ [d] := fun b hb hm => hdf (by rw [List.mem_singleton.mp hm] at hb; simp [hb])
    have g2 : ∀ b ∈ f2, b ∉ [d] := fun b hb hm => hdf (by rw [List.mem_singleton.mp hm] at hb; simp [hb])
    have d1 : d ≠ j1 := fun e => g1 j1 S.mem1 (by simp [e])
    have d2 : d ≠ j2 := fun e => g2 j2 S.mem2 (by simp [e])
    refine wpAny_pyIter_zip ok.1 (h zz [zz, tq, j1, j2] (ZSt zz ti tq j1 j2 St1 St2 [d]) s.heap s.toks ?_ ok.zst (fun _ _ e => e) fun b hb => .inl hb)
    have n1' : min n1 n2 ≤ n1 := Nat.min_le_left ..
    have n2' : min n1 n2 ≤ n2 := Nat.min_le_right ..
    exact {
      off := fun hm => by
        have hm : d = zz ∨ d = tq ∨ d = j1 ∨ d = j2 := by simpa using hm
        rcases hm with e | e | e | e
        · exact d0 e
        · exact dO e
        · exact d1 e
        · exact d2 e
      frame := fun i h1 h2 st hk => zst_frame (D1 A0 hA0) (D2 A0 hA0) S.mem1 S.mem2 st (fun b o hb e => hk b o (fun q => hb (by simp [q])) e) (by simp; exact Ne.symm d0) (by simp; exact Ne.symm dI) (by simp; exact Ne.symm dO) g1 g2
      item := fun i s1 Q1 E1 hi st hds hQ => by
        refine zst_item S (D1 A.in1 hA) (D2 A.in1 hA) (by omega) (by omega) st (fun b hb => by rw [List.mem_singleton.mp hb]; exact hds) fun x1 x2 h' tk a1 a2 a3 a4 _ hk => ?_
        exact hQ _ x1 x2 h' tk ⟨a1, a2⟩ (.inl ⟨_, a3, rfl, _, rfl⟩) a4 fun c o hc e => hk c o (fun q => hc (by simp [q])) (fun q => hc (by simp [q])) (fun q => hc (by simp [q])) (fun q => hc (by simp [q])) e
      done := fun s1 Q1 E1 st hQ => by
        refine zst_end S (D1 A.in1 hA) (D2 A.in1 hA) n1' n2' (by omega) st fun h' tk hk => ?_
        exact hQ h' tk fun c o hc e => hk c o (fun q => hc (by simp [q])) (fun q => hc (by simp [q])) (fun q => hc (by simp [q])) (fun q => hc (by simp [q])) e }
/-- what stands in a list of pairs: new tuples, one behind the other -/
def Prs (P1 P2 : Nat → Value → Prop) (bad : List Addr) (acc : Array Value) (i : Nat) (h : Heap) : Prop :=
  acc.size = i ∧ (∀ j v, acc[j]? = some v → ∃ T x y, v = .ref T ∧ P1 j x ∧ P2 j y ∧ IsTupOf2 h T x y ∧ ∀ b ∈ bad, b < T) ∧ ∀ (i j : Nat) (T U : Addr), i < j → acc[i]? = some (Value.ref T) → acc[j]? = some (Value.ref U) → T < U
theorem Prs.at {bad : List Addr} {acc : Array Value} {i : Nat} {h h' : Heap} (p : Prs P1 P2 bad acc i h) (hk : ∀ b o, b ∉ bad → h.get? b = some o → h'.get? b = some o) : Prs P1 P2 bad acc i h' :=
  ⟨p.1, fun j v e => let ⟨T, x, y, e1, e2, e3, e4, e5⟩ := p.2.1 j v e; ⟨T, x, y, e1, e2, e3, hk _ _ (fun m => Nat.lt_irrefl _ (e5 _ m)) e4, e5⟩, p.2.2⟩
theorem Prs.push {bad : List Addr} {acc : Array Value} {i : Nat} {h : Heap} {T : Addr} {x y : Value} (p : Prs P1 P2 bad acc i h) (h1 : P1 i x) (h2 : P2 i y) (h3 : IsTupOf2 h T x y) (h4 : ∀ b ∈ bad, b < T) (h5 : ∀ (j : Nat) (U : Addr), acc[j]? = some (Value.ref U) → U < T) : Prs P1 P2 bad (acc.push (.ref T)) (i + 1) h := by
  refine ⟨by rw [Array.size_push, p.1], fun j v e => ?_, fun i' j U W hij e1 e2 => ?_⟩
  · rw [Array.getElem?_push] at e
    split at e
    · rename_i q
      rw [p.1] at q
      cases e
      subst q
      exact ⟨T, x, y, rfl, h1, h2, h3, h4⟩
    · exact p.2.1 j v e
  · rw [Array.getElem?_push] at e1 e2
    split at e2
    · rename_i q
      cases e2
      rw [if_neg (by omega)] at e1
      exact h5 _ _ e1
    · rename_i q
      have := (Array.getElem?_eq_some_iff.mp e2).1
      rw [if_neg (by omega)] at e1
      exact p.2.2 i' j U W hij e1 e2
variable {A : Around} {R : Result → Shared → Prop}
theorem zip_loop (S : ZipSep2 zz ti tq j1 j2 f1 f2) (D1 : Draws prog w A.in1.in1 j1 f1 n1 P1 St1) (D2 : Draws prog w A.in1.in1 j2 f2 n2 P2 St2) (hn : min n1 n2 ≤ sizeLine) (L : Addr) (e0 : L ≠ zz) (eI : L ≠ ti) (eO : L ≠ tq) (g1 : L ∉ f1) (g2 : L ∉ f2) (res : Value) :
    ∀ (k i : Nat) (s : Shared) (acc : Array Value) (c : Nat), min n1 n2 - i = k → i ≤ min n1 n2 → ZSt zz ti tq j1 j2 St1 St2 [L] i s.heap → (∀ b ∈ [L, zz, tq, j1, j2], b < s.heap.objs.size) →
      s.heap.get? L = some { cls := .type "list", dict := none, data := .seq acc c, slots := #[] } → Prs P1 P2 [L, zz, tq, j1, j2] acc i s.heap →
    (∀ h' tk acc' c', (∀ b o, b ∉ [L, zz, tq, j1, j2] → s.heap.get? b = some o → h'.get? b = some o) → h'.get? L = some { cls := .type "list", dict := none, data := .seq acc' c', slots := #[] } → Prs P1 P2 [L, zz, tq, j1, j2] acc' (min n1 n2) h' → R (.ok (.ret res)) { s with heap := h', toks := tk }) →
    codeAny (model prog w) A (.builtin "list.extend.loop" ⟨[.ref L, .ref zz, res], []⟩) R s := by
  have c1 : L ≠ j1 := fun e => g1 (e ▸ S.mem1)
  have c2 : L ≠ j2 := fun e => g2 (e ▸ S.mem2)
  intro k
  induction k with
  | zero =>
    intro i s acc c hk hi st hb hL hp hR
    have e : i = min n1 n2 := by omega
    refine codeAny_builtin F.entry_extend_loop ?_
    rw [Around.under_plainId F.plain_extend_loop _]
    show wpAny _ A.in1 (pyNext (.ref zz) >>= _) _ _ s
    refine wpAny_bind (zst_end S D1 D2 (by omega) (by omega) (by omega) st fun h' tk kk => ?_)
    have kk' : ∀ b o, b ∉ [zz, tq, j1, j2] → s.heap.get? b = some o → h'.get? b = some o := fun b o hb e => kk b o (fun q => hb (by simp [q])) (fun q => hb (by simp [q])) (fun q => hb (by simp [q])) (fun q => hb (by simp [q])) e
    refine wpAny_pure (hR h' tk acc c (fun b o hb e => kk' b o (fun q => hb (List.mem_cons_of_mem _ q)) e) (kk' L _ (by simp [e0, eO, c1, c2]) hL) ?_)
    rw [← e]
    exact hp.at fun b o hb e => kk' b o (fun q => hb (List.mem_cons_of_mem _ q)) e
  | succ k ih =>
    intro i s acc c hk hi st hb hL hp hR
    refine codeAny_builtin F.entry_extend_loop ?_
    rw [Around.under_plainId F.plain_extend_loop _]
    show wpAny _ A.in1 (pyNext (.ref zz) >>= _) _ _ s
    refine wpAny_bind (zst_item S D1 D2 (by omega) (by omega) st (fun b hm => hb b (by rw [List.mem_singleton.mp hm]; simp)) fun x1 x2 h' tk a1 a2 a3 a4 a5 kk => ?_)
    have kk' : ∀ b o, b ∉ [zz, tq, j1, j2] → s.heap.get? b = some o → h'.get? b = some o := fun b o hb e => kk b o (fun q => hb (by simp [q])) (fun q => hb (by simp [q])) (fun q => hb (by simp [q])) (fun q => hb (by simp [q])) e
    have hL' := kk' L _ (by simp [e0, eO, c1, c2]) hL
    have hT : s.heap.objs.size ∉ [L, zz, tq, j1, j2] := fun hm => absurd (hb _ hm) (Nat.lt_irrefl _)
    show wpAny _ A.in1 (updateSeq L (·.push (.ref s.heap.objs.size)) >>= _) _ _ _
    refine wpAny_bind ?_
    have hp' := (hp.at fun b o hb e => kk' b o (fun q => hb (List.mem_cons_of_mem _ q)) e).push a1 a2 a3 hb fun j U e => by
      obtain ⟨T, x, y, q1, _, _, q2, _⟩ := hp.2.1 j _ e
      cases q1
      exact Heap.lt_size q2
    have oth : ∀ b o, b ≠ L → h'.get? b = some o → (h'.update L (Obj.mapSeq (·.push (Value.ref s.heap.objs.size)))).get? b = some o := fun b o hb e => (Heap.get?_update_other _ _ (Ne.symm hb)).trans e
    refine wpAny_updateSeq hL' rfl (wpAny_pure ⟨plainId_quiet F.plain_extend_loop _, ih (i + 1) _ (acc.push (.ref s.heap.objs.size)) _ (by omega) (by omega) ?_ (fun b hm => ?_) (Heap.get?_update_self _ hL' rfl) (hp'.at fun b o hb e => oth b o (fun q => hb (by simp [q])) e) fun h'' tk' acc' c' k2 l2 p2 => ?_⟩)
      (by rw [hp.1]; omega) (by show (acc.push _).size ≤ sizeLine + 1; rw [Array.size_push, hp.1]; omega)
    · exact zst_frame D1 D2 S.mem1 S.mem2 a4 (fun b o hb e => oth b o (fun q => hb (by simp [q])) e) (by simp; exact Ne.symm e0) (by simp; exact Ne.symm eI) (by simp; exact Ne.symm eO) (fun b hb hm => g1 (by rw [← List.mem_singleton.mp hm]; exact hb)) (fun b hb hm => g2 (by rw [← List.mem_singleton.mp hm]; exact hb))
    · have := hb b hm
      show b < (h'.update L _).objs.size
      rw [Heap.size_update]
      exact Nat.lt_trans this a5
    · exact hR h'' tk' acc' c' (fun b o hb e => k2 b o hb (oth b o (fun q => hb (by simp [q])) (kk' b o (fun q => hb (List.mem_cons_of_mem _ q)) e))) l2 p2
theorem zip_no_len : typeLookup (.type "zip") "__len__" = pure none := am_miss_of_fast (by decide +kernel)
theorem zip_no_hint : typeLookup (.type "zip") "__length_hint__" = pure none := am_miss_of_fast (by decide +kernel)
theorem hint_zip {A : Around} {E : Value → Shared → Prop} {s : Shared} {Q : Bool → Shared → Prop} (hT : s.TypeIs (.ref zz) "zip") (h : Q true s) : wpAny (model prog w) A (Builtin.List.listLengthHint (.ref zz)) Q E s := by
  unfold Builtin.List.listLengthHint
  refine wpAny_bind (wpAny_specialOf hT zip_no_len ?_)
  show wpAny _ A (specialOf (Value.ref zz) (Str.ofString "__length_hint__") >>= _) _ _ _
  refine wpAny_bind (wpAny_specialOf hT zip_no_hint ?_)
  exact wpAny_pure h
theorem zip_extend {s : Shared} (S : ZipSep2 zz ti tq j1 j2 f1 f2) (D1 : Draws prog w A.in1.in1 j1 f1 n1 P1 St1) (D2 : Draws prog w A.in1.in1 j2 f2 n2 P2 St2) (hn : min n1 n2 ≤ sizeLine) (L : Addr) (e0 : L ≠ zz) (eI : L ≠ ti) (eO : L ≠ tq) (g1 : L ∉ f1) (g2 : L ∉ f2) (res : Value)
    (hz : ZNew zz ti tq j1 j2 St1 St2 s.heap) (hb : ∀ b ∈ [L, zz, tq, j1, j2], b < s.heap.objs.size) (c0 : Nat) (hL : s.heap.get? L = some { cls := .type "list", data := .seq #[] c0 })
    (hR : ∀ h' tk acc' c', (∀ b o, b ∉ [L, zz, tq, j1, j2] → s.heap.get? b = some o → h'.get? b = some o) → h'.get? L = some { cls := .type "list", dict := none, data := .seq acc' c', slots := #[] } → Prs P1 P2 [L, zz, tq, j1, j2] acc' (min n1 n2) h' → R (.ok (.ret res)) { s with heap := h', toks := tk }) :
    wpAny (model prog w) A.in1 (Builtin.List.listExtendWith (.ref L) (.ref zz) res)
      (fun fin s' => match fin with | .done f => R (.ok f) s' | .again c' => c'.quiet = true ∧ codeAny (model prog w) A c' R s') (fun e s' => R (.error e) s') s := by
  have ty : s.TypeIs (.ref zz) "zip" := ⟨_, hz.1, rfl⟩
  have key : ∀ (h : Heap) (c1 tk : Nat), ZSt zz ti tq j1 j2 St1 St2 [L] 0 h → h.objs.size = s.heap.objs.size → (∀ b o, b ≠ L → s.heap.get? b = some o → h.get? b = some o) →
      h.get? L = some { cls := .type "list", data := .seq #[] c1 } → codeAny (model prog w) A (.builtin "list.extend.loop" ⟨[.ref L, .ref zz, res], []⟩) R { s with heap := h, toks := tk } := by
    intro h c1 tk st sz kk hl
    refine zip_loop S D1 D2 hn L e0 eI eO g1 g2 res (min n1 n2) 0 { s with heap := h, toks := tk } #[] c1 rfl (Nat.zero_le _) st (fun b hm => ?_) hl ⟨rfl, fun j v e => by simp at e, fun i j T U _ e => by simp at e⟩ fun h' tk' acc' c' k2 l2 p2 => ?_
    · have := hb b hm
      show b < h.objs.size
      rw [sz]
      exact this
    · exact hR h' tk' acc' c' (fun b o hm e => k2 b o hm (kk b o (fun q => hm (by simp [q])) e)) l2 p2
  unfold Builtin.List.listExtendWith
  refine wpAny_bind (wpAny_typeOf ty ?_)
  have q1 : Builtin.List.listSameRef (.ref L) (.ref zz) = false := by simp [Builtin.List.listSameRef, e0]
  have q2 : (Value.type "zip" == Value.type "list") = false := by decide
  have q3 : (Value.type "zip" == Value.type "tuple") = false := by decide
  simp only [q1, q2, q3, Bool.or_false, Bool.false_eq_true, if_false]
  refine wpAny_bind (wpAny_pyIter_zip hz.1 ?_)
  refine wpAny_bind (wpAny_holding (hint_zip ty ?_))
  refine wpAny_ite_split (fun _ => ?_) (fun _ => wpAny_pure ⟨plainId_quiet PySem.F.plain_extend_loop _, key s.heap c0 _ hz.zst rfl (fun b o _ e => e) hL⟩)
  refine wpAny_bind (wpAny_rule ?_)
  refine wpAny_bind ?_
  show wpAny _ _ (updateSeq L (·.push .none) >>= fun _ => updateSeq L (·.pop)) _ _ _
  refine wpAny_bind (wpAny_updateSeq hL rfl ?_)
  have hL2 := Heap.get?_update_self (Obj.mapSeq (·.push Value.none)) hL rfl
  refine wpAny_updateSeq (hz := by seq_fits) hL2 rfl ?_
  have hL3 := Heap.get?_update_self (Obj.mapSeq (·.pop)) hL2 rfl
  have oth : ∀ b o, b ≠ L → s.heap.get? b = some o → ((s.heap.update L (Obj.mapSeq (·.push Value.none))).update L (Obj.mapSeq (·.pop))).get? b = some o :=
    fun b o hb e => (Heap.get?_update_other _ _ (Ne.symm hb)).trans ((Heap.get?_update_other _ _ (Ne.symm hb)).trans e)
  refine wpAny_pure ⟨plainId_quiet PySem.F.plain_extend_loop _, key _ _ _ ?_ (by rw [Heap.size_update, Heap.size_update]) oth hL3⟩
  exact zst_frame D1 D2 S.mem1 S.mem2 hz.zst (fun b o hb e => oth b o (fun q => hb (by simp [q])) e) (by simp; exact Ne.symm e0) (by simp; exact Ne.symm eI) (by simp; exact Ne.symm eO) (fun b hb hm => g1 (by rw [← List.mem_singleton.mp hm]; exact hb)) (fun b hb hm => g2 (by rw [← List.mem_singleton.mp hm]; exact hb))
theorem ZNew.keep {h h' : Heap} (D1 : Draws prog w A j1 f1 n1 P1 St1) (D2 : Draws prog w A j2 f2 n2 P2 St2) (ok : ZNew zz ti tq j1 j2 St1 St2 h) (hk : ∀ b o, b ∈ zz :: ti :: tq :: (f1 ++ f2) → h.get? b = some o → h'.get? b = some o) : ZNew zz ti tq j1 j2 St1 St2 h' := by
  obtain ⟨kz, kI, ⟨a, b, kO⟩, u1, u2⟩ := ok
  exact ⟨hk _ _ (by simp) kz, hk _ _ (by simp) kI, ⟨a, b, hk _ _ (by simp) kO⟩, D1.frame _ _ _ u1 fun b hb o e => hk b o (by simp [hb]) e, D2.frame _ _ _ u2 fun b hb o e => hk b o (by simp [hb]) e⟩
theorem zip_init {s : Shared} (S : ZipSep2 zz ti tq j1 j2 f1 f2) (D1 : Draws prog w A.in1.in1 j1 f1 n1 P1 St1) (D2 : Draws prog w A.in1.in1 j2 f2 n2 P2 St2) (hn : min n1 n2 ≤ sizeLine) (L : Addr) (e0 : L ≠ zz) (eI : L ≠ ti) (eO : L ≠ tq) (g1 : L ∉ f1) (g2 : L ∉ f2)
    (hz : ZNew zz ti tq j1 j2 St1 St2 s.heap) (hb : ∀ b ∈ [L, zz, tq, j1, j2], b < s.heap.objs.size) (hL : s.heap.get? L = some { cls := .type "list", data := .seq #[] })
    (hR : ∀ h' tk acc' c', (∀ b o, b ∉ [L, zz, tq, j1, j2] → s.heap.get? b = some o → h'.get? b = some o) → h'.get? L = some { cls := .type "list", dict := none, data := .seq acc' c', slots := #[] } → Prs P1 P2 [L, zz, tq, j1, j2] acc' (min n1 n2) h' → R (.ok (.ret .none)) { s with heap := h', toks := tk }) :
    wpAny (model prog w) A.in1 (Builtin.«list.__init__» ⟨[.ref L, .ref zz], []⟩)
      (fun fin s' => match fin with | .done f => R (.ok f) s' | .again c' => c'.quiet = true ∧ codeAny (model prog w) A c' R s') (fun e s' => R (.error e) s') s := by
  show wpAny _ _ (do let old ← Builtin.List.listItems (.ref L); Builtin.List.listUpdate (.ref L) (fun _ => #[]); letGo old.toList.reverse; Builtin.List.listExtendWith (.ref L) (.ref zz) .none) _ _ s
  refine wpAny_bind ?_
  unfold Builtin.List.listItems
  refine wpAny_bind (wpAny_seqItems hL rfl (wpAny_pure ?_))
  show wpAny _ _ (updateSeq L (fun _ => #[]) >>= fun _ => letGo (#[] : Array Value).toList.reverse >>= fun _ => Builtin.List.listExtendWith (.ref L) (.ref zz) .none) _ _ s
  refine wpAny_bind (wpAny_updateSeq hL rfl ?_)
  have hL2 := Heap.get?_update_self (Obj.mapSeq (fun _ => (#[] : Array Value))) hL rfl
  have oth : ∀ b o, b ≠ L → s.heap.get? b = some o → (s.heap.update L (Obj.mapSeq (fun _ => (#[] : Array Value)))).get? b = some o :=
    fun b o hb e => (Heap.get?_update_other _ _ (Ne.symm hb)).trans e
  refine wpAny_bind (wpAny_letGo ?_)
  refine zip_extend S D1 D2 hn L e0 eI eO g1 g2 .none (hz.keep D1 D2 fun b o hm e => oth b o (fun q => ?_) e) (fun b hm => ?_) _ hL2 fun h' tk acc' c' k2 l2 p2 => ?_
  · subst q
    rcases List.mem_cons.mp hm with q | hm
    · exact e0 q
    rcases List.mem_cons.mp hm with q | hm
    · exact eI q
    rcases List.mem_cons.mp hm with q | hm
    · exact eO q
    rcases List.mem_append.mp hm with q | q
    · exact g1 q
    · exact g2 q
  · show b < (s.heap.update L _).objs.size
    rw [Heap.size_update]
    exact hb b hm
  · exact hR h' tk acc' c' (fun b o hb e => k2 b o hb (oth b o (fun q => hb (by simp [q])) e)) l2 p2
/-- list(z) of a zip -/
theorem zip_list {E : Value → Shared → Prop} {s : Shared} {Q : Value → Shared → Prop} (S : ZipSep2 zz ti tq j1 j2 f1 f2) (hh : A.handled = none) (D1 : ∀ A : Around, A.handled = none → Draws prog w A j1 f1 n1 P1 St1) (D2 : ∀ A : Around, A.handled = none → Draws prog w A j2 f2 n2 P2 St2) (hn : min n1 n2 ≤ sizeLine)
    (hz : ZNew zz ti tq j1 j2 St1 St2 s.heap) (hb : ∀ b ∈ zz :: ti :: tq :: (f1 ++ f2), b < s.heap.objs.size)
    (hQ : ∀ h' tk acc' c', (∀ b o, b ∉ [zz, tq, j1, j2] → s.heap.get? b = some o → h'.get? b = some o) → h'.get? s.heap.objs.size = some { cls := .type "list", dict := none, data := .seq acc' c', slots := #[] } →
      (∃ bad, s.heap.objs.size ∈ bad ∧ Prs P1 P2 bad acc' (min n1 n2) h') → Q (.ref s.heap.objs.size) { s with heap := h', toks := tk }) :
    wpAny (model prog w) A (call (.type "list") [.ref zz]) Q E s := by
  refine callType_codes (Q₁ := fun obj s1 => obj = .ref s.heap.objs.size ∧ s1 = { s with heap := s.heap.push { cls := .type "list", data := .seq #[] } }) PySem.F.called_list (PySem.F.typeCall_list_1 _) PySem.F.entry_list_init
    (code_list_new _ ⟨rfl, rfl⟩) fun obj s1 h1 => ?_
  obtain ⟨rfl, rfl⟩ := h1
  have hL : (s.heap.push { cls := .type "list", data := .seq #[] }).get? s.heap.objs.size = some { cls := .type "list", data := .seq #[] } := Heap.get?_push_size _ rfl
  have ne : ∀ b ∈ zz :: ti :: tq :: (f1 ++ f2), s.heap.objs.size ≠ b := fun b hm => Nat.ne_of_gt (hb b hm)
  have old : ∀ {b : Addr}, b < s.heap.objs.size → b < (s.heap.push { cls := .type "list", data := .seq #[] }).objs.size := fun {b} h => by
    rw [Heap.size_push]
    exact Nat.lt_succ_of_lt h
  refine ⟨⟨_, hL, rfl⟩, PySem.F.args_list_init_2 _ _, zip_init (A := A.in1) S (D1 _ hh) (D2 _ hh) hn _ (ne _ (by simp)) (ne _ (by simp)) (ne _ (by simp)) (fun hm => ne _ (by simp [hm]) rfl) (fun hm => ne _ (by simp [hm]) rfl)
    (hz.keep (D1 A hh) (D2 A hh) fun b o _ e => Heap.get?_push_of_some _ e) (fun b hm => ?_) hL fun h' tk acc' c' k2 l2 p2 => ?_⟩
  · rcases List.mem_cons.mp hm with rfl | hm
    · show s.heap.objs.size < (s.heap.push { cls := .type "list", data := .seq #[] }).objs.size
      rw [Heap.size_push]
      exact Nat.lt_succ_self _
    · refine old (hb b ?_)
      have hm : b = zz ∨ b = tq ∨ b = j1 ∨ b = j2 := by simpa using hm
      rcases hm with rfl | rfl | rfl | rfl
      · simp
      · simp
      · simp [S.mem1]
      · simp [S.mem2]
  · exact ⟨rfl, hQ h' tk acc' c' (fun b o hb e => k2 b o (fun hm => by
      rcases List.mem_cons.mp hm with q | hm
      · rw [q] at e
        exact absurd (Heap.lt_size e) (Nat.lt_irrefl _)
      · exact hb hm) (Heap.get?_push_of_some _ e)) l2 ⟨_, List.mem_cons_self .., p2⟩⟩
end
end PDZ
/-! ### sorted(d.items()), d of flat values -/
namespace PD
open PySem PySem.Spec PyProof.Rows L2
def dOf : V → PyData
  | .bl b => .bool b
  | .int i => .int i
  | .str x => .str x
  | _ => .none
def kvD (p : Key × V) : PyData := .tuple [dOf (kV p.1), dOf p.2]
theorem flat_reads {h : Heap} {x : V} {v : Value} (f : flatV x = true) (r : RelV x v) : Reads h v (dOf x) [] := by
  cases x with
  | non =>
    have r : v = Value.none := r
    subst r
    exact .none
  | bl b =>
    have r : v = Value.bool b := r
    subst r
    exact .bool b
  | int i =>
    obtain ⟨t, rfl⟩ := (show ∃ t, v = Value.int i t from r)
    exact .int i t
  | str y =>
    obtain ⟨t, rfl⟩ := (show ∃ t, v = Value.str y t from r)
    exact .str y t
  | _ => cases f
theorem flat_key (k : Key) : flatV (kV k) = true := by cases k <;> rfl
def sortedRefs (L : List Addr) (kvs : List (Key × V)) : List V := (((L.map V.ref).zip (kvs.map kvD)).mergeSort (PySem.W.dataLe false (·.2))).map (·.1)
def rSortItD : List V → Hp → VK → Prop := fun xs H Q => ∃ (a : Addr) (kvs : List (Key × V)), xs = [.ref a] ∧ H a = some (.dK kvs) ∧ kvs.all (fun p => flatV p.2) = true ∧ PySem.W.AllAlike (kvs.map kvD) ∧ PySem.W.Sortable (kvs.map kvD) ∧
  ∀ (L : List Addr) (p : Addr), L.length = kvs.length → L.Nodup → (∀ t ∈ L, H t = none) → p ∉ L → H p = none → Q (.ref p) (upd (LiI.putT H L kvs) p (.lst (sortedRefs L kvs)))
theorem take_put {X : Cx} {pins : List (Addr × Obj)} {σ : L2.St} {H0 : Hp} {s : Shared} {h' : Heap} {tk : Nat} (I0 : Inv X pins σ H0 s) : ∀ (L : List Addr) (kvs : List (Key × V)) (H1 : Hp), Inv X pins σ H1 { s with heap := h', toks := tk } → L.Nodup → L.length = kvs.length →
    (∀ (j : Nat) (a : Addr) (p : Key × V), L[j]? = some a → kvs[j]? = some p → s.heap.objs.size ≤ a ∧ H1 a = none ∧ ∀ H2, ObjOk X.prog X.w H2 h' a (.tup [kV p.1, p.2])) → Inv X pins σ (LiI.putT H1 L kvs) { s with heap := h', toks := tk }
  | [], [], H1, I1, _, _, _ => I1
  | [], _ :: _, H1, I1, _, hl, _ => by cases hl
  | _ :: _, [], H1, I1, _, hl, _ => by cases hl
  | a :: L, p :: kvs, H1, I1, hn, hl, h => by
    obtain ⟨hb, hnone, ok⟩ := h 0 a p rfl rfl
    have I2 := I1.take (h' := h') (t' := tk) (fun b ob _ e => e) (I0.fpOk hb hnone) (ok _)
    rw [List.nodup_cons] at hn
    refine take_put I0 L kvs _ I2 hn.2 (by simpa using hl) fun j c q hc hq => ?_
    obtain ⟨c1, c2, c3⟩ := h (j + 1) c q (by simpa using hc) (by simpa using hq)
    exact ⟨c1, by rw [upd_ne (fun z => hn.1 (by rw [← z]; exact List.mem_of_getElem? hc))]; exact c2, c3⟩
theorem each_refs {h : Heap} : ∀ {L : List Addr} {kvs : List (Key × V)}, L.length = kvs.length → (∀ (j : Nat) (a : Addr) (p : Key × V), L[j]? = some a → kvs[j]? = some p → Reads h (.ref a) (kvD p) []) → ∀ q : Addr,
    PySem.W.EachIs (fun (v : Value) (b : V × PyData) => RelV b.1 v) (L.map Value.ref) ((L.map V.ref).zip (kvs.map kvD)) ∧ PySem.W.EachIs (fun (v : Value) (b : V × PyData) => ∃ as, Reads h v b.2 as ∧ q ∉ as) (L.map Value.ref) ((L.map V.ref).zip (kvs.map kvD))
  | [], [], _, _, q => ⟨.nil, .nil⟩
  | [], _ :: _, hl, _, _ => by cases hl
  | _ :: _, [], hl, _, _ => by cases hl
  | a :: L, p :: kvs, hl, h, q => by
    obtain ⟨h1, h2⟩ := each_refs (L := L) (kvs := kvs) (by simpa using hl) (fun j c r hc hr => h (j + 1) c r (by simpa using hc) (by simpa using hr)) q
    exact ⟨.cons rfl h1, .cons ⟨[], h 0 a p rfl rfl, by simp⟩ h2⟩
theorem depth_of (x : V) : (dOf x).depth ≤ 1 := by cases x <;> simp [dOf, PyData.depth]
section
variable {X : Cx} {e : Expr} {te : TE} {p apos cpos pos : Pos}
theorem pe_sortIt {k : Nat} (hr : Room k X.A) (hc : X.calm = true) (he : PE X e te) (hg : Gl X "sorted") (hm : X.mg "sorted" = none) (hbase : attributeBase e "items" X.env (eval e X.env) = eval e X.env) (hline : (apos.endLine == cpos.line) = true)
    (hs : starEach [.Call (.Attribute e "items" apos) [] [] cpos] X.env = (false, eval (.Call (.Attribute e "items" apos) [] [] cpos) X.env) :: starEach [] X.env := by rfl) :
    PE X (.Call (.Name "sorted" p) [.Call (.Attribute e "items" apos) [] [] cpos] [] pos) (tCB rSortItD (tCons te tNil)) := by
  refine ⟨fun pins s0 σ H0 Q I0 hq => ?_⟩
  refine wpAny_Call_Name_kw (ld_blt I0 hg hm (show bootBuiltins "sorted" = some (.builtin "sorted") by decide +kernel) ?_ (by decide) (by decide))
  refine PyProof.Rows.callWith_builtin1 ?_ hs rfl
  rw [hs]
  show wpAny _ _ (spliced ((false, eval (.Call (.Attribute e "items" apos) [] [] cpos) X.env) :: backTo pos (starEach [] X.env))) _ _ s0
  refine Calls.spliced_cons ?_
  refine wpAny_Call_method (T := "dict") (id := "dict.items") hbase rfl hline F.plainAttrs_dict F.slot_dict_items F.type_dict_items (thn (he.run pins s0 σ H0 _ I0 hq) fun u s1 ⟨x, H, I1, rx, a, kvs, ex, hd, hf, hal, hso, q⟩ => ?_)
  cases ex
  obtain rfl : u = Value.ref a := rx
  obtain ⟨hz, hs0, vs, kv, hdo⟩ := I1.hok a _ hd
  obtain ⟨o, es, ep, ho, hx, hdat, _, hps, _⟩ := hdo
  have hdo : s1.heap.DictOf (mixKind X.prog X.w) a vs := ⟨o, es, ep, ho, hx, hdat, by assumption, hps, by assumption⟩
  have lk : kvs.length = vs.length := Paired.length kv
  have le : es.size = vs.length := hps.length
  refine ⟨hdo.typeIs, hdo.mapOf.noDict, ?_⟩
  show wpAny _ _ (callWith cpos (.builtin "dict.items") [.ref a] [] []) _ X.xe s1
  refine method_meetsIn F.slot_dict_items F.entry_dict_items rfl (PySem.evalArgs_none ⟨rfl, hdo.typeIs, F.args_dict_items_1 _, _, meets_dict_items (mixKind X.prog X.w) a hs0, ⟨vs, hdo⟩, ?_⟩)
  refine Calls.spliced_nil ?_
  have I : Inv X pins σ H { s1 with heap := s1.heap.push { cls := .type "dict_items", data := .fields #[.ref a] } } := I1.kept (t' := s1.toks) fun b ob q => Heap.get?_push_of_some _ q
  have view : (s1.heap.push { cls := .type "dict_items", data := .fields #[.ref a] }).IsItemsView s1.heap.objs.size a := ⟨_, Heap.get?_push_size _ rfl, rfl, rfl⟩
  have raw : DT.Raw (s1.heap.push { cls := .type "dict_items", data := .fields #[.ref a] }) a es ep := ⟨o, Heap.get?_push_of_some _ ho, hx, hdat⟩
  generalize hsh : ({ s1 with heap := s1.heap.push { cls := .type "dict_items", data := .fields #[.ref a] } } : Shared) = s at I
  have view : s.heap.IsItemsView s1.heap.objs.size a := by rw [← hsh]; exact view
  have raw : DT.Raw s.heap a es ep := by rw [← hsh]; exact raw
  refine DT.sortedI (es := es) (ep := ep) (I.ok.hd hc) view raw (by omega) fun h' tk as hk hlt hl hG => ?_
  have lak : as.length = kvs.length := by omega
  have nd : as.Nodup := List.Pairwise.imp (fun h => Nat.ne_of_lt h) hG.rise
  have hob : (h'.push { cls := .type "list", data := .seq (as.map Value.ref).toArray }).get? h'.objs.size = some (seqObj "list" (as.map Value.ref).toArray 0) := Heap.get?_push_size _ rfl
  have kb : ∀ b o, s.heap.get? b = some o → (h'.push { cls := .type "list", data := .seq (as.map Value.ref).toArray }).get? b = some o := fun b o e => Heap.get?_push_of_some _ (hk b o e)
  have ne0 : ∀ b o, h'.get? b = some o → b ≠ h'.objs.size := fun b o e => Nat.ne_of_lt (Heap.lt_size e)
  generalize hh2 : h'.push { cls := .type "list", data := .seq (as.map Value.ref).toArray } = h2 at hob kb ⊢
  have ka : ∀ b o, h'.get? b = some o → h2.get? b = some o := fun b o e => by rw [← hh2]; exact Heap.get?_push_of_some _ e
  -- the pairs
  have pr : ∀ (j : Nat) (b : Addr) (q : Key × V), as[j]? = some b → kvs[j]? = some q → ∃ u w, RelV (kV q.1) u ∧ RelV q.2 w ∧ h'.get? b = some { cls := .type "tuple", data := .seq #[u, w] } := by
    intro j b q hj hq
    obtain ⟨en, he, hg⟩ := hG.pairs j b hj
    obtain ⟨kx, g1, g2, g3⟩ := LiI.paired_get kv hq
    obtain ⟨kk, x⟩ := kx
    obtain ⟨f1, f2⟩ := hps.get? (by rw [Array.getElem?_toList]; exact he) g1
    refine ⟨en.key, en.val, ?_, by rw [f2]; exact g3, hg⟩
    rw [show q.1 = kk from g2]
    exact relV_key (show keyIs kk en.key = true from f1)
  have flat : ∀ (j : Nat) (q : Key × V), kvs[j]? = some q → flatV q.2 = true := fun j q hq => List.all_eq_true.mp hf q (List.mem_of_getElem? hq)
  have rd : ∀ (j : Nat) (b : Addr) (q : Key × V), as[j]? = some b → kvs[j]? = some q → Reads h2 (.ref b) (kvD q) [] := by
    intro j b q hj hq
    obtain ⟨u, w, r1, r2, hg⟩ := pr j b q hj hq
    exact .tuple (as := []) (ka _ _ hg) rfl rfl (.cons (as := []) (bs := []) (flat_reads (flat_key _) r1) (.cons (as := []) (bs := []) (flat_reads (flat j q hq) r2) .nil))
  obtain ⟨ea, eb⟩ := each_refs lak rd h'.objs.size
  have lz : ((as.map V.ref).zip (kvs.map kvD)).length = kvs.length := by
    rw [List.length_zip, List.length_map, List.length_map]
    omega
  have m2 : ((as.map V.ref).zip (kvs.map kvD)).map (·.2) = kvs.map kvD := List.map_snd_zip (by rw [List.length_map, List.length_map]; omega)
  refine PySem.W.list_sort_data (s := { s with heap := h2, toks := tk }) (enc := fun b : V × PyData => b.2) (R := fun v b => RelV b.1 v) hob ea eb (by rw [m2]; exact hal) (by rw [m2]; exact hso) (by omega) (fun b hb => ?_) fun out hlen ho2 => ?_
  · have : b.2 ∈ kvs.map kvD := by
      rw [← m2]
      exact List.mem_map.mpr ⟨b, hb, rfl⟩
    obtain ⟨q, _, e2⟩ := List.mem_map.mp this
    have d1 : b.2.depth ≤ 2 := by
      rw [← e2]
      have a1 := depth_of (kV q.1)
      have a2 := depth_of q.2
      simp only [kvD, PyData.depth, PyData.depthAll]
      omega
    have := hr.un
    show X.A.units + 1 + 1 + b.2.depth < cLine
    omega
  · show EP X pins σ Q (.ref h'.objs.size) { s with heap := sortedHeap h2 h'.objs.size (as.map Value.ref) out.toArray, toks := tk }
    have kF : ∀ b o, b ≠ h'.objs.size → h2.get? b = some o → (sortedHeap h2 h'.objs.size (as.map Value.ref) out.toArray).get? b = some o := fun b o hb e => (PyProof.Rows.sortedHeap_old hb (Heap.lt_size e)).trans e
    have kS : ∀ b o, s.heap.get? b = some o → (sortedHeap h2 h'.objs.size (as.map Value.ref) out.toArray).get? b = some o := fun b o e => kF b o (ne0 _ _ (hk b o e)) (kb b o e)
    obtain ⟨eF, heF⟩ := PyProof.Rows.sortedHeap_at (vs := as.map Value.ref) (out := out.toArray) hob
    have J : Inv X pins σ H { s with heap := sortedHeap h2 h'.objs.size (as.map Value.ref) out.toArray, toks := tk } := I.kept (t' := tk) kS
    have hn0 : H h'.objs.size = none := I.hok.fresh (Nat.le_of_lt hlt)
    have new : ∀ t ∈ as, H t = none := fun t ht => I.hok.fresh (Nat.le_of_lt (hG.above t ht))
    have hpn : h'.objs.size ∉ as := fun hm => absurd (hG.there hm) (Nat.lt_irrefl _)
    have J2 := take_put I as kvs H J nd lak fun j b q hj hq => by
      obtain ⟨u, w, r1, r2, hg⟩ := pr j b q hj hq
      exact ⟨Nat.le_of_lt (hG.above b (List.mem_of_getElem? hj)), new b (List.mem_of_getElem? hj), fun H3 => ⟨(by rw [sizeLine_eq]; show 2 ≤ 16777216; omega), [u, w], .cons r1 (.cons r2 .nil), ⟨_, kF _ _ (ne0 _ _ hg) (ka _ _ hg), rfl, 0, rfl⟩⟩⟩
    have hn1 : LiI.putT H as kvs h'.objs.size = none := by rw [LiI.putT_off as kvs H hpn]; exact hn0
    have lr : (sortedRefs as kvs).length ≤ sizeLine := by
      unfold sortedRefs
      rw [List.length_map, (List.mergeSort_perm _ _).length_eq, lz]
      exact hz
    have J3 : Inv X pins σ (upd (LiI.putT H as kvs) h'.objs.size (.lst (sortedRefs as kvs))) { s with heap := sortedHeap h2 h'.objs.size (as.map Value.ref) out.toArray, toks := tk } :=
      J2.take (h' := sortedHeap h2 h'.objs.size (as.map Value.ref) out.toArray) (t' := tk) (fun b ob _ e => e) (I.fpOk (Nat.le_of_lt hlt) hn1) ⟨lr, out, eF, vals_of_each ho2, heF⟩
    exact ⟨.ref h'.objs.size, _, J3, rfl, q as h'.objs.size lak nd new hpn hn0⟩
end
/-! over the data -/
def kD : Key → D
  | .inl i => .int i
  | .inr x => .str x
def keyOk : Key → Bool
  | .inl _ => true
  | .inr x => PyData.strOk x
def itD (e : Key × D) : D := .tup [kD e.1, e.2]
def sortItD : List D → Option Vl
  | [.dk es] => if es.all (fun e => flatD e.2 && keyOk e.1) = true then (if sortOk (es.map itD) = true then some (.fr (.lst (sortL (es.map itD)))) else none) else none
  | _ => none
section
variable {K : PySem.W.Frag} {A : Anc} {vs : L2.St} {env : Env}
theorem Rp.dOf {B : Hp} {d : D} {v : V} (h : Rp K B d v) (f : flatD d = true) : PD.dOf v = d.py ∧ d.isPy = true := by
  cases h <;> first | (cases f; done) | exact ⟨rfl, rfl⟩
theorem kD_py (k : Key) : PD.dOf (kV k) = (kD k).py ∧ (kD k).isPy = true := by cases k <;> exact ⟨rfl, rfl⟩
theorem rp_key {B : Hp} {k : Key} (h : keyOk k = true) : Rp K B (kD k) (kV k) := by
  cases k with
  | inl i => exact .int i
  | inr x => exact .str x h
theorem kv_py {B : Hp} : ∀ {es : List (Key × D)} {kvs : List (Key × V)}, es.map (·.1) = kvs.map (·.1) → Rps K B (es.map (·.2)) (kvs.map (·.2)) → es.all (fun e => flatD e.2 && keyOk e.1) = true →
    kvs.map kvD = (es.map itD).map D.py ∧ kvs.all (fun p => flatV p.2) = true
  | [], [], _, _, _ => ⟨rfl, rfl⟩
  | [], _ :: _, h, _, _ => by cases h
  | _ :: _, [], h, _, _ => by cases h
  | e :: es, p :: kvs, h, r, f => by
    have h : e.1 = p.1 ∧ es.map (·.1) = kvs.map (·.1) := by simpa using h
    have f : (flatD e.2 = true ∧ keyOk e.1 = true) ∧ es.all (fun e => flatD e.2 && keyOk e.1) = true := by simpa only [List.all_cons, Bool.and_eq_true] using f
    cases r with
    | cons r1 r2 =>
      obtain ⟨a1, a2⟩ := kv_py h.2 r2 f.2
      refine ⟨?_, ?_⟩
      · rw [List.map_cons, List.map_cons, List.map_cons, a1]
        congr 1
        show PyData.tuple [PD.dOf (kV p.1), PD.dOf p.2] = PyData.tuple [(kD e.1).py, e.2.py]
        rw [← h.1, (kD_py e.1).1, (r1.dOf f.1.1).1]
      · rw [List.all_cons, a2, show flatV p.2 = true from r1.flat f.1.1]
        rfl
theorem lay_pairs : ∀ {L : List Addr} {kvs : List (Key × V)} {es : List (Key × D)} {B H : Hp}, SR K A B H vs env → L.Nodup → L.length = kvs.length → (∀ t ∈ L, H t = none) → es.map (·.1) = kvs.map (·.1) → Rps K B (es.map (·.2)) (kvs.map (·.2)) → es.all (fun e => flatD e.2 && keyOk e.1) = true →
    ∃ B', Same B B' ∧ SR K A B' (LiI.putT H L kvs) vs env ∧ Rps K B' (es.map itD) (L.map V.ref)
  | [], [], [], B, H, S, _, _, _, _, _, _ => ⟨B, Same.refl _, S, .nil⟩
  | [], _ :: _, _, _, _, _, _, hl, _, _, _, _ => by cases hl
  | _ :: _, [], _, _, _, _, _, hl, _, _, _, _ => by cases hl
  | _, [], _ :: _, _, _, _, _, _, _, h, _, _ => by cases h
  | _, _ :: _, [], _, _, _, _, _, _, h, _, _ => by cases h
  | a :: L, p :: kvs, e :: es, B, H, S, hn, hl, hH, h, r, f => by
    have h : e.1 = p.1 ∧ es.map (·.1) = kvs.map (·.1) := by simpa using h
    have f : (flatD e.2 = true ∧ keyOk e.1 = true) ∧ es.all (fun e => flatD e.2 && keyOk e.1) = true := by simpa only [List.all_cons, Bool.and_eq_true] using f
    rw [List.nodup_cons] at hn
    cases r with
    | cons r1 r2 =>
      have rk : Rp K B (kD e.1) (kV p.1) := by
        rw [← h.1]
        exact rp_key f.1.2
      obtain ⟨B1, s1, S1, q1⟩ := VRp.tup S (hH a (List.mem_cons_self ..)) (.cons rk (.cons r1 .nil))
      obtain ⟨B2, s2, S2, q2⟩ := lay_pairs (es := es) S1 hn.2 (by simpa using hl) (fun t ht => by
        rw [upd_ne (fun z => hn.1 (by rw [← z]; exact ht))]
        exact hH t (List.mem_cons_of_mem _ ht)) h.2 (r2.mono s1) f.2
      exact ⟨B2, s1.trans s2, S2, .cons (q1.mono s2) q2⟩
theorem ps_sortIt : PrS K rSortItD sortItD := by
  intro A B H vs env xs ds res Q S rr e q
  unfold sortItD at e
  split at e
  · rename_i es
    split at e
    · rename_i hf
      split at e
      · rename_i ok
        cases e
        obtain ⟨x, rfl, r1⟩ := pr1 rr
        obtain ⟨a, kvs, rfl, ha, he, hr⟩ := r1.dk S.same
        obtain ⟨p1, p2⟩ := kv_py he hr hf
        have p1' : kvs.map kvD = pys (es.map itD) := by rw [pys_map]; exact p1
        unfold sortOk at ok
        simp only [Bool.and_eq_true] at ok
        obtain ⟨⟨⟨⟨o1, o2⟩, o3⟩, o4⟩, o5⟩ := ok
        refine ⟨a, kvs, rfl, ha, p2, ?_, ?_, fun L p hl hn hH hpn hp => ?_⟩
        · rw [p1']
          intro d hd d' hd'
          exact List.all_eq_true.mp (List.all_eq_true.mp o2 d hd) d' hd'
        · refine .inl fun d hd => ?_
          rw [p1] at hd
          obtain ⟨y, hy, rfl⟩ := List.mem_map.mp hd
          obtain ⟨z, _, rfl⟩ := List.mem_map.mp hy
          exact ⟨_, _, rfl⟩
        · obtain ⟨B', s', S', r'⟩ := lay_pairs (es := es) S hn hl hH he hr hf
          obtain ⟨zs, z1, z2, z3⟩ := rps_zip (Same.refl _) r' o1
          have e1 : (L.map V.ref).zip (kvs.map kvD) = zs.map fun z => (z.1, z.2.py) := by
            rw [p1, ← z1, ← z2, List.map_map, List.zip_map']
            rfl
          have e2 : ((zs.map fun z => (z.1, z.2.py)).mergeSort (PySem.W.dataLe false (·.2))) = (zs.mergeSort (PySem.W.dataLe false fun z => z.2.py)).map fun z => (z.1, z.2.py) :=
            (List.map_mergeSort (f := fun z : V × D => (z.1, z.2.py)) (fun a _ b _ => rfl)).symm
          have e3 : sortL (es.map itD) = (zs.mergeSort (PySem.W.dataLe false fun z => z.2.py)).map (·.2) := by
            rw [← z2]
            exact (List.map_mergeSort (f := fun z : V × D => z.2) (fun a _ b _ => rfl)).symm
          have hr : Rps K B' (sortL (es.map itD)) (sortedRefs L kvs) := by
            unfold sortedRefs
            rw [e1, e2, e3, List.map_map]
            exact rps_of_zip fun z hz => (z3 z ((List.mergeSort_perm _ _).mem_iff.mp hz)).1
          exact q B' _ _ s' (.lst S' (by rw [LiI.putT_off L kvs H hpn]; exact hp) hr)
      · cases e
    · cases e
  · cases e
end
section
variable {g : G0} {c : Ct} {o : Expr} {m : M Vl} {p apos cpos pos : Pos}
theorem ee_sortIt (h : EE g c o m) (hg : GlC c "sorted") (hm : g.mg "sorted" = none) (hb : ∀ env : PySem.Env, attributeBase o "items" env (eval o env) = eval o env) (hl : (apos.endLine == cpos.line) = true) :
    EE g c (.Call (.Name "sorted" p) [.Call (.Attribute o "items" apos) [] [] cpos] [] pos) (eP sortItD (cA m cN)) := by
  obtain ⟨t, h1, k1⟩ := h
  exact ⟨_, fun X hX => pe_sortIt hX.room hX.calm (h1 X hX) (gl_of hX hg) (by rw [hX.em]; exact hm) (hb _) hl, fun A => sx_prim ps_sortIt (sa_cons (k1 A) sa_nil)⟩
end
end PD
namespace PD
open PySem PySem.Spec PyProof.Rows L2
/-! ### tuple(xs), a tuple that is known to be bare; dict(such a tuple) -/
def tupleBD : List D → Option Vl
  | [.lst ds] => some (.im (.tp ds))
  | _ => none
def rTupB (K : PySem.W.Frag) : List V → Hp → VK → Prop := fun xs H Q => ∃ p ys, xs = [.ref p] ∧ SqL K H p ys ∧ ∀ (l : Addr) (o : Obj), H l = none → o.dict = none → Q (.ref l) (upd H l (.frz o (.tup ys)))
theorem cr_tupB {X : Cx} : CallR X (.type "tuple") (rTupB X.K) := by
  intro pins s σ H xs us Q I r h
  obtain ⟨p, ys, rfl, hq, q⟩ := h
  rw [Vals.ref1 r]
  obtain ⟨its, r', pl, hz⟩ := I.list hq
  have hlen := r'.length
  refine call_tuple_list pl.isList (fun h' kp => ?_) (by simp only [List.size_toArray] <;> omega)
  have J : Inv X pins σ H { s with heap := h' } := I.kept (t' := s.toks) kp
  have new : (h'.push { cls := .type "tuple", data := .seq its.toArray }).get? h'.objs.size = some { cls := .type "tuple", data := .seq its.toArray } := Heap.get?_push_size _ rfl
  exact ⟨.ref h'.objs.size, _, J.laid (t' := s.toks) (o := .frz { cls := .type "tuple", data := .seq its.toArray } (.tup ys)) (fun b o e => Heap.get?_push_of_some _ e) (Nat.le_refl _) ⟨new, hz, its, r', IsTup.new _ _⟩, rfl, q _ _ (J.hok.fresh (Nat.le_refl _)) rfl⟩
theorem ca_tupB {g : G0} : CaI g (.type "tuple") tupleBD := by
  refine ⟨rTupB g.K, fun c X hX => by rw [← hX.eK]; exact cr_tupB, fun A B H vs env xs ds res Q S rr e q => ?_⟩
  unfold tupleBD at e
  split at e
  · cases e
    obtain ⟨x, rfl, r1⟩ := pr1 rr
    obtain ⟨a, us, rfl, ha, ra⟩ := r1.lst S.same
    refine ⟨a, us, rfl, .of ha, fun l o hl hd => ?_⟩
    obtain ⟨S', s'⟩ := S.laidF (o := .frz o (.tup us)) hl
    exact q _ _ _ s' ⟨S', .tp upd_same hd (ra.mono s')⟩
  · cases e
section
variable {X : Cx}
theorem pairs_of2 {pins : List (Addr × Obj)} {σ : L2.St} {H : Hp} {s : Shared} (I : Inv X pins σ H s) : ∀ {ps : List Addr} {kvs : List (Key × V)}, Paired (fun p kv => SqT X.K H p [kV kv.1, kv.2]) ps kvs →
    ∃ (prs : List (Key × Value)) (vps : List (Value × Value)), KV kvs prs ∧ prs.length = ps.length ∧ vps.length = ps.length ∧ ∀ (j : Nat) (k v : Value), vps[j]? = some (k, v) → ∃ (b : Addr) (kk : Key), ps[j]? = some b ∧ IsTup s.heap b #[k, v] ∧ prs[j]? = some (kk, v) ∧ keyIs kk k = true
  | _, _, .nil => ⟨[], [], .nil, rfl, rfl, fun j k v e => by simp at e⟩
  | _, _, .cons (a := p) (b := kv) h t => by
    obtain ⟨prs, vps, r, hl, hm, hp⟩ := pairs_of2 I t
    obtain ⟨its, rv, ht, _⟩ := I.tuple h
    obtain ⟨u, y, ei, ru, ry⟩ := vals2 rv
    subst ei
    refine ⟨(kv.1, y) :: prs, (u, y) :: vps, .cons ⟨rfl, ry⟩ r, by rw [List.length_cons, List.length_cons, hl], by rw [List.length_cons, List.length_cons, hm], fun j k v e => ?_⟩
    cases j with
    | zero =>
      have e' : (u, y) = (k, v) := Option.some.inj e
      cases e'
      exact ⟨p, kv.1, rfl, ht, rfl, kV_is (P := X.prog) (w := X.w) ru⟩
    | succ j =>
      obtain ⟨b, kk, e1, e2, e3, e4⟩ := hp j k v (by simpa using e)
      exact ⟨b, kk, by simpa using e1, e2, by simpa using e3, e4⟩
def rDictB (K : PySem.W.Frag) : List V → Hp → VK → Prop := fun xs H Q => ∃ (a : Addr) (o : Obj) (ps : List Addr) (kvs : List (Key × V)), xs = [.ref a] ∧ H a = some (.frz o (.tup (ps.map V.ref))) ∧ o.dict = none ∧ Paired (fun p kv => SqT K H p [kV kv.1, kv.2]) ps kvs ∧ ∀ p, H p = none → Q (.ref p) (upd H p (.dK (mergeK [] kvs)))
theorem cr_dictB (hc : X.calm = true) : CallR X (.type "dict") (rDictB X.K) := by
  intro pins s σ H xs us Q I r h
  obtain ⟨a, o, ps, kvs, rfl, ha, hd, hp, q⟩ := h
  rw [Vals.ref1 r]
  obtain ⟨ho, hz, its, rv, o', ho', hcl, n, hdat⟩ := (show ObjOk X.prog X.w H s.heap a (.frz o (.tup (ps.map V.ref))) from I.hok a _ ha)
  rw [ho] at ho'
  cases ho'
  have ei := refs_at rv
  subst ei
  rw [List.length_map] at hz
  obtain ⟨prs, vps, rel, hl, hm, hpr⟩ := pairs_of2 I hp
  have P := PairArg.tuple (prog := X.prog) (w := X.w) a (ps.map Value.ref).toArray (fun j => (ps[j]?).getD 0) vps
  refine PySem.call_dict_pairs (knd := mixKind X.prog X.w) (kvs := prs) P (I.ok.hd hc) ⟨⟨o, n, ho, hcl, hd, hdat⟩, by simp [hm], fun j k v e => ?_⟩ ⟨by omega, fun i k v e => ?_⟩ (by omega) fun h' tk hd' kk => ?_
  · obtain ⟨b, kq, e1, e2, _⟩ := hpr j k v e
    refine ⟨by simp [e1], ?_⟩
    show PairAt s.heap ((ps[j]?).getD 0) k v
    rw [e1]
    exact .inl e2
  · obtain ⟨b, kq, e1, e2, e3, e4⟩ := hpr i k v e
    exact ⟨kq, e3, e4⟩
  · have hm' : (s.heap.objs.size == sysModules) = false := beq_eq_false_iff_ne.mpr (Nat.ne_of_gt I.big)
    have hlen : (mergeK [] kvs).length ≤ sizeLine := by
      have h1 := length_mergeK kvs []
      have h2 := rel.length
      rw [List.length_nil] at h1
      omega
    exact ⟨.ref s.heap.objs.size, _, I.laid (t' := tk) (o := .dK (mergeK [] kvs)) (fun b o e => kk b o (by simp) e) (Nat.le_refl _) ⟨hlen, hm', merged [] prs, KV.merge rel .nil, hd'⟩, rfl, q _ (I.hok.fresh (Nat.le_refl _))⟩
end
def dictBD : List D → Option Vl
  | [.tp ds] => match pairsK ds with
    | some es => some (.fr (.dk (mergeD [] es)))
    | none => none
  | _ => none
theorem ca_dictB {g : G0} : CaI g (.type "dict") dictBD := by
  refine ⟨rDictB g.K, fun c X hX => by rw [← hX.eK]; exact cr_dictB hX.calm, fun A B H vs env xs ds res Q S rr e q => ?_⟩
  unfold dictBD at e
  split at e
  · split at e
    · rename_i es hes
      cases e
      obtain ⟨x, rfl, r1⟩ := pr1 rr
      obtain ⟨a, o, us, rfl, ha, hd, ra⟩ := r1.tp S.same
      obtain ⟨ps, kvs, rfl, h2, h3⟩ := pairs_kp S.same ra hes
      refine ⟨a, o, ps, kvs, rfl, ha, hd, h3, fun p hp => q B _ _ (Same.refl _) ?_⟩
      have h4 := kp_to (kp_merge h2 (.nil : Kp g.K B ([] : List (Key × D)) []))
      exact S.push hp (.dk h4.1 h4.2)
    · cases e
  · cases e
/-! ### sorted(d) of a dict whose keys are tuples -/
def ktP (k : List Key) : PyData := .tuple (k.map fun k => dOf (kV k))
def sortedBy (bs : List Addr) (ks : List (List Key)) : List V := (((bs.map V.ref).zip (ks.map ktP)).mergeSort (PySem.W.dataLe false (·.2))).map (·.1)
def rSortKT : List V → Hp → VK → Prop := fun xs H Q => ∃ (a : Addr) (kvs : List (List Key × V)), xs = [.ref a] ∧ H a = some (.dT kvs) ∧ PySem.W.AllAlike ((kvs.map (·.1)).map ktP) ∧ PySem.W.Sortable ((kvs.map (·.1)).map ktP) ∧
  ∀ (bs : List Addr) (p : Addr), H p = none → IsKeys H kvs bs → Q (.ref p) (upd H p (.lst (sortedBy bs (kvs.map (·.1)))))
theorem readsAll_keys {h : Heap} : ∀ {k : List Key} {its : List Value}, Vals (k.map kV) its → ReadsAll h its (k.map fun k => dOf (kV k)) []
  | [], _, .nil => .nil
  | k :: ks, _, .cons r t => .cons (as := []) (bs := []) (flat_reads (flat_key k) r) (readsAll_keys t)
theorem depth_keys : ∀ k : List Key, PyData.depthAll (k.map fun k => dOf (kV k)) ≤ 1
  | [] => by simp [PyData.depthAll]
  | k :: ks => by
    have a1 := depth_of (kV k)
    have a2 := depth_keys ks
    simp only [List.map_cons, PyData.depthAll]
    omega
section
variable {X : Cx}
theorem each_keys2 {H : Hp} {h : Heap} (q : Addr) : ∀ {kvs : List (List Key × V)} {bs : List Addr}, IsKeys H kvs bs → (∀ (b : Addr) (k : List Key), H b = some (.tup (k.map kV)) → Reads h (.ref b) (ktP k) []) →
    PySem.W.EachIs (fun (v : Value) (b : V × PyData) => RelV b.1 v) (bs.map Value.ref) ((bs.map V.ref).zip ((kvs.map (·.1)).map ktP)) ∧ PySem.W.EachIs (fun (v : Value) (b : V × PyData) => ∃ as, Reads h v b.2 as ∧ q ∉ as) (bs.map Value.ref) ((bs.map V.ref).zip ((kvs.map (·.1)).map ktP))
  | _, _, .nil, _ => ⟨.nil, .nil⟩
  | kv :: kvs, b :: bs, .cons h1 t, hr => by
    obtain ⟨g1, g2⟩ := each_keys2 (H := H) q (kvs := kvs) (bs := bs) t hr
    exact ⟨.cons rfl g1, .cons ⟨[], hr b kv.1 h1, by simp⟩ g2⟩
theorem cr_sortKT {k : Nat} (hr : Room k X.A) (hc : X.calm = true) : CallR X (.builtin "sorted") rSortKT := by
  intro pins s σ H xs us Q I r h
  obtain ⟨d, kvs, rfl, hd, hal, hso, q⟩ := h
  rw [Vals.ref1 r]
  obtain ⟨z, hs, ks, pr, o, es, ep, ho, hx, hdt, he, hn⟩ := (show ObjOk X.prog X.w H s.heap d (.dT kvs) from I.hok d _ hd)
  have l1 : es.size = ks.length := size_of_entries he
  have l2 : kvs.length = ks.length := Paired.length pr
  have ik : IsKeys H kvs (ks.map fun x => x.2.1) := isKeys_of pr
  refine Calls.call_function_entry kind_sorted plain_sorted entry_sorted (args_sorted1 _) ?_
  unfold Builtin.«sorted»
  refine wpAny_bind (m := checkCount "sorted" 1 1 _) (wpAny_pure ?_)
  refine wpAny_bind (PySem.W.kdu_collect (A := X.A.in1) (kdl_raw hs hx hdt) (I.ok.hd hc) ho (by omega) fun h' tk acc hk it => ?_)
  have ea : acc.toList = (ks.map fun x => x.2.1).map Value.ref := by
    have hl : acc.toList.length = ks.length := by rw [Array.length_toList, it.1]; exact l1
    rw [List.map_map]
    apply List.ext_getElem?
    intro j
    rw [List.getElem?_map]
    cases hj : acc.toList[j]? with
    | none =>
      have h1 := List.getElem?_eq_none_iff.mp hj
      rw [List.getElem?_eq_none (by omega)]
      rfl
    | some v =>
      obtain ⟨en, hen, hv⟩ := it.2 j v (by rw [← Array.getElem?_toList]; exact hj)
      have qe := entry_at he j
      rw [hen] at qe
      cases hb : ks[j]? with
      | none =>
        rw [hb] at qe
        exact nomatch (show some en = none from qe)
      | some b =>
        rw [hb] at qe
        have e2 : en = entryOfKey (tupleKind (mixKind X.prog X.w)) b := Option.some.inj qe
        rw [hv, e2]
        rfl
  rw [ea]
  generalize hbs : ks.map (fun x => x.2.1) = bs at ik ⊢
  have lb : bs.length = kvs.length := by rw [← hbs, List.length_map]; omega
  refine wpAny_bind (wpAny_newList ?_ (by rw [List.length_map, lb]; exact z))
  have hob : (h'.push { cls := .type "list", data := .seq (bs.map Value.ref).toArray }).get? h'.objs.size = some (seqObj "list" (bs.map Value.ref).toArray 0) := Heap.get?_push_size _ rfl
  have kb : ∀ b o, s.heap.get? b = some o → (h'.push { cls := .type "list", data := .seq (bs.map Value.ref).toArray }).get? b = some o := fun b o e => Heap.get?_push_of_some _ (hk b o e)
  have ne0 : ∀ b o, h'.get? b = some o → b ≠ h'.objs.size := fun b o e => Nat.ne_of_lt (Heap.lt_size e)
  have J : Inv X pins σ H { s with heap := h', toks := tk } := I.kept (t' := tk) hk
  have ka : ∀ b o, h'.get? b = some o → (h'.push { cls := .type "list", data := .seq (bs.map Value.ref).toArray }).get? b = some o := fun b o e => Heap.get?_push_of_some _ e
  generalize hh2 : h'.push { cls := .type "list", data := .seq (bs.map Value.ref).toArray } = h2 at hob kb ka ⊢
  have rd : ∀ (b : Addr) (k : List Key), H b = some (.tup (k.map kV)) → Reads h2 (.ref b) (ktP k) [] := by
    intro b k e
    obtain ⟨_, its, rv, ot, hot, hct, nt, hdat⟩ := (show ObjOk X.prog X.w H s.heap b (.tup (k.map kV)) from I.hok b _ e)
    exact .tuple (kb _ _ hot) hct hdat (by simpa using readsAll_keys rv)
  obtain ⟨e1, e2⟩ := each_keys2 h'.objs.size ik rd
  have lz : ((bs.map V.ref).zip ((kvs.map (·.1)).map ktP)).length = kvs.length := by
    rw [List.length_zip, List.length_map, List.length_map, List.length_map]
    omega
  have m2 : ((bs.map V.ref).zip ((kvs.map (·.1)).map ktP)).map (·.2) = (kvs.map (·.1)).map ktP := List.map_snd_zip (by rw [List.length_map, List.length_map, List.length_map]; omega)
  have hg : wpAny (model X.prog X.w) X.A.in1 (call (.builtin "list.sort") [.ref h'.objs.size]) (fun _ s' => EP X pins σ Q (.ref h'.objs.size) s') X.xe { s with heap := h2, toks := tk } := by
    refine PySem.W.list_sort_data (s := { s with heap := h2, toks := tk }) (enc := fun b : V × PyData => b.2) (R := fun v b => RelV b.1 v) hob e1 e2 (by rw [m2]; exact hal) (by rw [m2]; exact hso) (by omega) (fun b hb => ?_) fun out hlen ho2 => ?_
    · have : b.2 ∈ (kvs.map (·.1)).map ktP := by
        rw [← m2]
        exact List.mem_map.mpr ⟨b, hb, rfl⟩
      obtain ⟨k', _, e3⟩ := List.mem_map.mp this
      have d1 : b.2.depth ≤ 2 := by
        rw [← e3]
        have := depth_keys k'
        simp only [ktP, PyData.depth]
        omega
      have := hr.un
      show X.A.units + 1 + 1 + b.2.depth < cLine
      omega
    · show EP X pins σ Q (.ref h'.objs.size) { s with heap := sortedHeap h2 h'.objs.size (bs.map Value.ref) out.toArray, toks := tk }
      have kS : ∀ b o, h'.get? b = some o → (sortedHeap h2 h'.objs.size (bs.map Value.ref) out.toArray).get? b = some o := fun b o e => (PyProof.Rows.sortedHeap_old (ne0 b o e) (Heap.lt_size (ka b o e))).trans (ka b o e)
      obtain ⟨eF, heF⟩ := PyProof.Rows.sortedHeap_at (vs := bs.map Value.ref) (out := out.toArray) hob
      have lr : (sortedBy bs (kvs.map (·.1))).length ≤ sizeLine := by
        unfold sortedBy
        rw [List.length_map, (List.mergeSort_perm _ _).length_eq, lz]
        exact z
      exact ⟨.ref h'.objs.size, _, J.laid (t' := tk) (o := .lst (sortedBy bs (kvs.map (·.1)))) kS (Nat.le_refl _) ⟨lr, out, eF, vals_of_each ho2, heF⟩, rfl, q bs _ (J.hok.fresh (Nat.le_refl _)) ik⟩
  refine wpAny_bind (wpAny_holding (wpAny_mono hg (fun _ s' x => ?_) fun _ _ e => e))
  exact wpAny_pure ⟨_, rfl, x⟩
end
def ktD (k : List Key) : D := .tup (k.map kD)
def sortKTD : List D → Option Vl
  | [.dt es] => if ((es.map (·.1)).all fun k => k.all keyOk) = true then (if sortOk ((es.map (·.1)).map ktD) = true then some (.fr (.lst (sortL ((es.map (·.1)).map ktD)))) else none) else none
  | _ => none
section
variable {K : PySem.W.Frag} {A : Anc} {vs : L2.St} {env : Env}
theorem kt_py (k : List Key) : ktP k = (ktD k).py := by
  show PyData.tuple _ = PyData.tuple _
  rw [pys_map, List.map_map]
  congr 1
  exact List.map_congr_left fun k _ => (kD_py k).1
theorem rps_keys {B : Hp} : ∀ {k : List Key}, k.all keyOk = true → Rps K B (k.map kD) (k.map kV)
  | [], _ => .nil
  | k :: ks, h => by
    have h : keyOk k = true ∧ ks.all keyOk = true := by simpa only [List.all_cons, Bool.and_eq_true] using h
    exact .cons (rp_key h.1) (rps_keys h.2)
theorem freeze_keys : ∀ {kvs : List (List Key × V)} {bs : List Addr} {B H : Hp}, SR K A B H vs env → IsKeys H kvs bs → ((kvs.map (·.1)).all fun k => k.all keyOk) = true → ∃ B', Same B B' ∧ SR K A B' H vs env ∧ Rps K B' ((kvs.map (·.1)).map ktD) (bs.map V.ref)
  | _, _, B, H, S, .nil, _ => ⟨B, Same.refl _, S, .nil⟩
  | kv :: kvs, b :: bs, B, H, S, .cons h1 t, hk => by
    have hk : kv.1.all keyOk = true ∧ ((kvs.map (·.1)).all fun k => k.all keyOk) = true := by simpa only [List.map_cons, List.all_cons, Bool.and_eq_true] using hk
    obtain ⟨B1, s1, S1, e1⟩ := S.freezeT h1
    obtain ⟨B2, s2, S2, r2⟩ := freeze_keys (kvs := kvs) (bs := bs) S1 t hk.2
    exact ⟨B2, s1.trans s2, S2, .cons (.tup (s2 _ _ e1) (rps_keys hk.1)) r2⟩
theorem ca_sortKT {g : G0} : CaI g (.builtin "sorted") sortKTD := by
  refine ⟨rSortKT, fun c X hX => cr_sortKT hX.room hX.calm, fun A B H vs env xs ds res Q S rr e q => ?_⟩
  unfold sortKTD at e
  split at e
  · rename_i es
    split at e
    · rename_i hf
      split at e
      · rename_i ok
        cases e
        obtain ⟨x, rfl, r1⟩ := pr1 rr
        obtain ⟨a, kvs, rfl, ha, he, hr⟩ := r1.dt S.same
        rw [he] at hf ok q
        have p1 : (kvs.map (·.1)).map ktP = pys ((kvs.map (·.1)).map ktD) := by
          simp only [pys_map, List.map_map]
          exact List.map_congr_left fun p _ => kt_py p.1
        unfold sortOk at ok
        simp only [Bool.and_eq_true] at ok
        obtain ⟨⟨⟨⟨o1, o2⟩, o3⟩, o4⟩, o5⟩ := ok
        refine ⟨a, kvs, rfl, ha, ?_, ?_, fun bs p hp ik => ?_⟩
        · rw [p1]
          intro d hd d' hd'
          exact List.all_eq_true.mp (List.all_eq_true.mp o2 d hd) d' hd'
        · rcases Bool.or_eq_true_iff.mp o5 with o | o
          · refine .inl fun d hd => ?_
            obtain ⟨k, hk, rfl⟩ := List.mem_map.mp hd
            have := List.all_eq_true.mp o (ktD k) (List.mem_map.mpr ⟨k, hk, rfl⟩)
            unfold ktD at this
            unfold ktP
            cases k with
            | nil => cases this
            | cons x r => exact ⟨_, _, rfl⟩
          · refine .inr fun d hd => ?_
            obtain ⟨k, hk, rfl⟩ := List.mem_map.mp hd
            have := List.all_eq_true.mp o (ktD k) (List.mem_map.mpr ⟨k, hk, rfl⟩)
            cases this
        · obtain ⟨B', s', S', r'⟩ := freeze_keys S ik hf
          obtain ⟨zs, z1, z2, z3⟩ := rps_zip S'.same r' o1
          have e1 : (bs.map V.ref).zip ((kvs.map (·.1)).map ktP) = zs.map fun z => (z.1, z.2.py) := by
            rw [p1, pys_map, ← z1, ← z2, List.map_map, List.zip_map']
            rfl
          have e2 : ((zs.map fun z => (z.1, z.2.py)).mergeSort (PySem.W.dataLe false (·.2))) = (zs.mergeSort (PySem.W.dataLe false fun z => z.2.py)).map fun z => (z.1, z.2.py) :=
            (List.map_mergeSort (f := fun z : V × D => (z.1, z.2.py)) (fun a _ b _ => rfl)).symm
          have e3 : sortL ((kvs.map (·.1)).map ktD) = (zs.mergeSort (PySem.W.dataLe false fun z => z.2.py)).map (·.2) := by
            rw [← z2]
            exact (List.map_mergeSort (f := fun z : V × D => z.2) (fun a _ b _ => rfl)).symm
          have hr : Rps g.K B' (sortL ((kvs.map (·.1)).map ktD)) (sortedBy bs (kvs.map (·.1))) := by
            unfold sortedBy
            rw [e1, e2, e3, List.map_map]
            exact rps_of_zip fun z hz => (z3 z ((List.mergeSort_perm _ _).mem_iff.mp hz)).1
          exact q B' _ _ s' (.lst S' hp hr)
      · cases e
    · cases e
  · cases e
end
end PD
/-! ### dict(zip(x, y)), list(zip(x, y)) as expressions -/
namespace PD
open PySem PySem.Spec PyProof.Rows L2 PDZ
/-- a thing that can be walked: where its iterator begins, and how it goes -/
structure Src (prog : Program) (w : World) (a : Addr) (items : Array Value) (h : Heap) (o : Obj) (Hh : Heap → Prop) (St : Addr → Nat → Heap → Prop) : Prop where
  begins : Begins (.ref a) o Hh
  now : Hh h
  lt : a < h.objs.size
  draws : ∀ (A : Around) (it : Addr), A.handled = none → a ≠ it → Draws prog w A it [it, a] items.size (fun i v => items[i]? = some v) (St it)
  start : ∀ (it : Addr) (h' : Heap), h'.get? it = some o → (∀ c u, h.get? c = some u → h'.get? c = some u) → St it 0 h'
  there : ∀ (it : Addr) (h' : Heap), St it 0 h' → ∀ b ∈ [it, a], ∃ u, h'.get? b = some u
theorem src_list {prog : Program} {w : World} {a : Addr} {items : Array Value} {h : Heap} (x : h.IsList a items) : ∃ o Hh St, Src prog w a items h o Hh St :=
  ⟨_, _, fun it i h => h.IsListIter it a i ∧ h.IsList a items, begins_list a items, x, let ⟨_, e, _⟩ := x; Heap.lt_size e, fun A it hh ne => Draws.list hh it a ne items,
    fun it h' e k => ⟨⟨_, e, rfl, rfl⟩, x.at fun u e => k a u e⟩, fun it h' st b hb => by
      obtain ⟨⟨o1, e1, _⟩, ⟨o2, e2, _⟩⟩ := st
      have hb : b = it ∨ b = a := by simpa using hb
      rcases hb with rfl | rfl
      · exact ⟨_, e1⟩
      · exact ⟨_, e2⟩⟩
theorem src_tuple {prog : Program} {w : World} {a : Addr} {items : Array Value} {h : Heap} (x : h.IsTuple a items) : ∃ o Hh St, Src prog w a items h o Hh St :=
  ⟨_, _, fun it i h => h.IsTupleIter it a i ∧ h.IsTuple a items, begins_tuple a items, x, let ⟨_, e, _⟩ := x; Heap.lt_size e, fun A it hh ne => Draws.tuple hh it a ne items,
    fun it h' e k => ⟨⟨_, e, rfl, rfl⟩, x.at fun u e => k a u e⟩, fun it h' st b hb => by
      obtain ⟨⟨o1, e1, _⟩, ⟨o2, e2, _⟩⟩ := st
      have hb : b = it ∨ b = a := by simpa using hb
      rcases hb with rfl | rfl
      · exact ⟨_, e1⟩
      · exact ⟨_, e2⟩⟩
/-- what is known of a zip that was just made -/
structure Zipped (prog : Program) (w : World) (xs ys : Array Value) (s : Shared) (h' : Heap) (f1 f2 : List Addr) (St1 St2 : Nat → Heap → Prop) : Prop where
  new : ZNew (s.heap.objs.size + 4) (s.heap.objs.size + 2) (s.heap.objs.size + 3) s.heap.objs.size (s.heap.objs.size + 1) St1 St2 h'
  sep : ZipSep2 (s.heap.objs.size + 4) (s.heap.objs.size + 2) (s.heap.objs.size + 3) s.heap.objs.size (s.heap.objs.size + 1) f1 f2
  d1 : ∀ A : Around, A.handled = none → Draws prog w A s.heap.objs.size f1 xs.size (fun i v => xs[i]? = some v) St1
  d2 : ∀ A : Around, A.handled = none → Draws prog w A (s.heap.objs.size + 1) f2 ys.size (fun i v => ys[i]? = some v) St2
  t1 : ∀ h, St1 0 h → ∀ b ∈ f1, ∃ o, h.get? b = some o
  t2 : ∀ h, St2 0 h → ∀ b ∈ f2, ∃ o, h.get? b = some o
  size : h'.objs.size = s.heap.objs.size + 5
  lts : ∀ b ∈ (s.heap.objs.size + 4) :: (s.heap.objs.size + 2) :: (s.heap.objs.size + 3) :: (f1 ++ f2), b < h'.objs.size
  keep : ∀ c o, s.heap.get? c = some o → h'.get? c = some o
theorem zip_go {prog : Program} {w : World} {A : Around} {E : Value → Shared → Prop} {s : Shared} {a b : Addr} {xs ys : Array Value} {o1 o2 : Obj} {H1 H2 : Heap → Prop} {S1 S2 : Addr → Nat → Heap → Prop} {Q : Value → Shared → Prop}
    (X1 : Src prog w a xs s.heap o1 H1 S1) (X2 : Src prog w b ys s.heap o2 H2 S2)
    (q : ∀ h' f1 f2 St1 St2, Zipped prog w xs ys s h' f1 f2 St1 St2 → Q (.ref (s.heap.objs.size + 4)) { s with heap := h' }) : wpAny (model prog w) A (call (.type "zip") [.ref a, .ref b]) Q E s := by
  refine zip_begins2 X1.begins X2.begins X1.now X2.now fun h' kz kI kO k1 k2 sz kk => ?_
  have la := X1.lt
  have lb := X2.lt
  refine q h' [s.heap.objs.size, a] [s.heap.objs.size + 1, b] (S1 s.heap.objs.size) (S2 (s.heap.objs.size + 1)) ⟨⟨kz, kI, ⟨_, _, kO⟩, X1.start _ h' k1 kk, X2.start _ h' k2 kk⟩, ?_, fun A hh => X1.draws A _ hh (Nat.ne_of_lt la), fun A hh => X2.draws A _ hh (Nat.ne_of_lt (Nat.lt_succ_of_lt lb)), X1.there _, X2.there _, sz, ?_, kk⟩
  · exact zip_sep2 (fun c hc => by rw [List.mem_singleton.mp hc]; exact la) (fun c hc => by rw [List.mem_singleton.mp hc]; exact lb)
  · intro c hc
    have hc : c = s.heap.objs.size + 4 ∨ c = s.heap.objs.size + 2 ∨ c = s.heap.objs.size + 3 ∨ c = s.heap.objs.size ∨ c = a ∨ c = s.heap.objs.size + 1 ∨ c = b := by simpa using hc
    rw [sz]
    rcases hc with h | h | h | h | h | h | h
    · rw [h]; exact Nat.add_lt_add_left (by decide) _
    · rw [h]; exact Nat.add_lt_add_left (by decide) _
    · rw [h]; exact Nat.add_lt_add_left (by decide) _
    · rw [h]; exact Nat.lt_add_of_pos_right (by decide)
    · rw [h]; exact Nat.lt_of_lt_of_le la (Nat.le_add_right _ _)
    · rw [h]; exact Nat.add_lt_add_left (by decide) _
    · rw [h]; exact Nat.lt_of_lt_of_le lb (Nat.le_add_right _ _)
/-- a list or a tuple -/
def SqA (K : PySem.W.Frag) (H : Hp) (a : Addr) (xs : List V) : Prop := SqL K H a xs ∨ SqT K H a xs
theorem SqA.src {X : Cx} {pins : List (Addr × Obj)} {σ : L2.St} {H : Hp} {s : Shared} {a : Addr} {xs : List V} (I : Inv X pins σ H s) (h : SqA X.K H a xs) : ∃ (its : List Value), Vals xs its ∧ xs.length ≤ sizeLine ∧ ∃ o Hh St, Src X.prog X.w a its.toArray s.heap o Hh St := by
  rcases h with h | h
  · obtain ⟨its, rv, p, z⟩ := I.list h
    exact ⟨its, rv, z, src_list p.isList⟩
  · obtain ⟨its, rv, p, z⟩ := I.tuple h
    exact ⟨its, rv, z, src_tuple (show s.heap.IsTuple a its.toArray from p)⟩
def rDictZip (K : PySem.W.Frag) : List V → Hp → VK → Prop := fun vs H Q => ∃ (a b : Addr) (ks : List Key) (ys : List V), vs = [.ref a, .ref b] ∧ SqA K H a (ks.map kV) ∧ SqA K H b ys ∧ ∀ p, H p = none → Q (.ref p) (upd H p (.dK (mergeK [] (ks.zip ys))))
section
variable {X : Cx} {e1 e2 : Expr} {ta : TA} {p p2 pos pos2 : Pos}
theorem kv_zip : ∀ {ks : List Key} {ys : List V} {us vs : List Value}, Vals (ks.map kV) us → Vals ys vs → KV (ks.zip ys) (ks.zip vs)
  | [], ys, us, vs, _, _ => by
    cases ys <;> cases vs <;> exact .nil
  | k :: ks, [], us, vs, _, r => by
    cases r
    exact .nil
  | k :: ks, y :: ys, us, vs, r1, r2 => by
    cases r1 with
    | cons h1 t1 =>
      cases r2 with
      | cons h2 t2 => exact .cons ⟨rfl, h2⟩ (kv_zip t1 t2)
theorem vals_get : ∀ {xs : List V} {us : List Value} {i : Nat} {u : Value}, Vals xs us → us[i]? = some u → ∃ x, xs[i]? = some x ∧ RelV x u
  | _, _, _, _, .nil, e => by simp at e
  | x :: xs, v :: us, 0, u, .cons h _, e => by
    have : v = u := by simpa using e
    subst this
    exact ⟨x, rfl, h⟩
  | x :: xs, v :: us, i + 1, u, .cons _ t, e => by
    obtain ⟨y, h1, h2⟩ := vals_get (i := i) t (by simpa using e)
    exact ⟨y, by simpa using h1, h2⟩
/-- zip(e1, e2), as it is made -/
theorem run_zip {W : List V → Hp → Prop} (hgz : Gl X "zip") (hmz : X.mg "zip" = none) (ha : PA X [e1, e2] ta)
    (hs : starEach [e1, e2] X.env = (false, eval e1 X.env) :: starEach [e2] X.env) (hpl : (backTo pos2 (starEach [e2] X.env)).any (·.1) = false) {pins : List (Addr × Obj)} {s : Shared} {σ : L2.St} {H : Hp} {Q : Value → Shared → Prop} (I : Inv X pins σ H s)
    (h : ta σ H W) (hW : ∀ vs H1, W vs H1 → ∃ (a b : Addr) (xs ys : List V), vs = [.ref a, .ref b] ∧ SqA X.K H1 a xs ∧ SqA X.K H1 b ys ∧ ∀ (s1 : Shared) (us ws : List Value) (h' : Heap) (f1 f2 : List Addr) (St1 St2 : Nat → Heap → Prop), Inv X pins σ H1 s1 → Vals xs us → Vals ys ws → xs.length ≤ sizeLine → Zipped X.prog X.w us.toArray ws.toArray s1 h' f1 f2 St1 St2 → Q (.ref (s1.heap.objs.size + 4)) { s1 with heap := h' }) :
    wpAny (model X.prog X.w) X.A (eval (.Call (.Name "zip" p2) [e1, e2] [] pos2) X.env) Q X.xe s := by
  refine wpAny_Call_Name_kw (ld_blt I hgz hmz (show bootBuiltins "zip" = some (.type "zip") by decide +kernel) ?_ (by decide) (by decide))
  refine callWith_type1 (thn (ha.run pos2 pins s σ H _ I h) fun us s1 ⟨vs, H1, I1, r1, w⟩ => ?_) hs hpl
  obtain ⟨a, b, xs, ys, ex, qa, qb, q⟩ := hW vs H1 w
  subst ex
  cases r1 with
  | cons r rr =>
    cases rr with
    | cons r' rr =>
      cases rr
      cases r
      cases r'
      obtain ⟨its, rv, z, o1, G1, T1, X1⟩ := qa.src I1
      obtain ⟨jts, rw', _, o2, G2, T2, X2⟩ := qb.src I1
      exact zip_go X1 X2 fun h' f1 f2 St1 St2 Z => q s1 its jts h' f1 f2 St1 St2 I1 rv rw' z Z
theorem Zipped.old {prog : Program} {w : World} {us ws : Array Value} {s1 : Shared} {h' : Heap} {f1 f2 : List Addr} {St1 St2 : Nat → Heap → Prop} (Z : Zipped prog w us ws s1 h' f1 f2 St1 St2) {b : Addr} {o : Obj} (e : s1.heap.get? b = some o) :
    b ∉ [s1.heap.objs.size + 4, s1.heap.objs.size + 3, s1.heap.objs.size, s1.heap.objs.size + 1] := by
  have := Heap.lt_size e
  intro hm
  have hm : b = s1.heap.objs.size + 4 ∨ b = s1.heap.objs.size + 3 ∨ b = s1.heap.objs.size ∨ b = s1.heap.objs.size + 1 := by simpa using hm
  rcases hm with h | h | h | h
  · rw [h] at this; exact Nat.not_lt_of_le (Nat.le_add_right _ _) this
  · rw [h] at this; exact Nat.not_lt_of_le (Nat.le_add_right _ _) this
  · rw [h] at this; exact Nat.lt_irrefl _ this
  · rw [h] at this; exact Nat.not_lt_of_le (Nat.le_add_right _ _) this
theorem pe_dictzip (hc : X.calm = true) (hg : Gl X "dict") (hm : X.mg "dict" = none) (hgz : Gl X "zip") (hmz : X.mg "zip" = none) (ha : PA X [e1, e2] ta)
    (hs : starEach [e1, e2] X.env = (false, eval e1 X.env) :: starEach [e2] X.env) (hpl : (backTo pos2 (starEach [e2] X.env)).any (·.1) = false)
    (ht : starEach [.Call (.Name "zip" p2) [e1, e2] [] pos2] X.env = (false, eval (.Call (.Name "zip" p2) [e1, e2] [] pos2) X.env) :: starEach [] X.env := by rfl) :
    PE X (.Call (.Name "dict" p) [.Call (.Name "zip" p2) [e1, e2] [] pos2] [] pos) (tCB (rDictZip X.K) ta) := by
  refine ⟨fun pins s σ H Q I h => ?_⟩
  refine wpAny_Call_Name_kw (ld_blt I hg hm (show bootBuiltins "dict" = some (.type "dict") by decide +kernel) ?_ (by decide) (by decide))
  refine callWith_type1 ?_ ht rfl
  rw [ht]
  refine Calls.spliced_cons (run_zip (p2 := p2) (pos2 := pos2) hgz hmz ha hs hpl I h fun vs H1 ⟨a, b, ks, ys, ex, qa, qb, q⟩ => ⟨a, b, _, _, ex, qa, qb, fun s1 us ws h1 f1 f2 St1 St2 I1 r1 r2 z Z => ?_⟩)
  refine Calls.spliced_nil ?_
  have l1 : ks.length = us.length := by
    have := r1.length
    rwa [List.length_map] at this
  have l2 := r2.length
  rw [List.length_map] at z
  have lz : (ks.zip ws).length = min us.toArray.size ws.toArray.size := by
    rw [List.length_zip, List.size_toArray, List.size_toArray, l1]
  refine PySem.call_dict_pairs (s := { s1 with heap := h1 }) (knd := mixKind X.prog X.w) (kvs := ks.zip ws) (pairZip Z.sep Z.d1 Z.d2 Z.t1 Z.t2 X.A (I.ok.hd hc)) (I.ok.hd hc) Z.new ⟨lz, fun i k v e => ?_⟩ (by rw [List.size_toArray, List.size_toArray]; omega) fun h' tk hd' kk => ?_
  · obtain ⟨k1, k2⟩ := e
    obtain ⟨x, g1, g2⟩ := vals_get r1 (by simpa using k1)
    rw [List.getElem?_map] at g1
    cases hk : ks[i]? with
    | none =>
      rw [hk] at g1
      cases g1
    | some kq =>
      rw [hk] at g1
      cases g1
      exact ⟨kq, by rw [List.getElem?_zip_eq_some]; exact ⟨hk, by simpa using k2⟩, kV_is (P := X.prog) (w := X.w) g2⟩
  · have kS : ∀ b o, s1.heap.get? b = some o → h'.get? b = some o := fun b o e => kk b o (Z.old e) (Z.keep b o e)
    have hs5 : h1.objs.size = s1.heap.objs.size + 5 := Z.size
    have hle : s1.heap.objs.size ≤ h1.objs.size := by rw [hs5]; exact Nat.le_add_right _ _
    have hm' : (h1.objs.size == sysModules) = false := beq_eq_false_iff_ne.mpr (Nat.ne_of_gt (Nat.lt_of_lt_of_le I1.big hle))
    have hlen : (mergeK [] (ks.zip ys)).length ≤ sizeLine := by
      have h1 := length_mergeK (ks.zip ys) []
      rw [List.length_nil, List.length_zip] at h1
      omega
    exact ⟨.ref h1.objs.size, _, I1.laid (t' := tk) (o := .dK (mergeK [] (ks.zip ys))) kS hle ⟨hlen, hm', merged [] (ks.zip ws), KV.merge (kv_zip r1 r2) .nil, hd'⟩, rfl, q _ (I1.hok.fresh hle)⟩
/-! list(zip(x, y)) -/
theorem refs_exist : ∀ {l : List Value}, (∀ v ∈ l, ∃ T, v = Value.ref T) → ∃ L : List Addr, l = L.map Value.ref
  | [], _ => ⟨[], rfl⟩
  | v :: l, h => by
    obtain ⟨T, rfl⟩ := h v (List.mem_cons_self ..)
    obtain ⟨L, rfl⟩ := refs_exist (l := l) fun v hv => h v (List.mem_cons_of_mem _ hv)
    exact ⟨T :: L, rfl⟩
end
def putV : Hp → List Addr → List (V × V) → Hp
  | H, a :: as, p :: ps => putV (upd H a (.tup [p.1, p.2])) as ps
  | H, _, _ => H
theorem putV_off {b : Addr} : ∀ (as : List Addr) (ps : List (V × V)) (H : Hp), b ∉ as → putV H as ps b = H b
  | [], _, _, _ => rfl
  | _ :: _, [], _, _ => rfl
  | a :: as, p :: ps, H, h => by
    show putV (upd H a (.tup [p.1, p.2])) as ps b = H b
    rw [putV_off as ps _ (fun z => h (List.mem_cons_of_mem _ z)), upd_ne (fun z => h (by rw [z]; exact List.mem_cons_self))]
theorem take_putV {X : Cx} {pins : List (Addr × Obj)} {σ : L2.St} {H0 : Hp} {s : Shared} {h' : Heap} {tk : Nat} (I0 : Inv X pins σ H0 s) : ∀ (L : List Addr) (ps : List (V × V)) (H1 : Hp), Inv X pins σ H1 { s with heap := h', toks := tk } → L.Nodup → L.length = ps.length →
    (∀ (j : Nat) (a : Addr) (p : V × V), L[j]? = some a → ps[j]? = some p → s.heap.objs.size ≤ a ∧ H1 a = none ∧ ∀ H2, ObjOk X.prog X.w H2 h' a (.tup [p.1, p.2])) → Inv X pins σ (putV H1 L ps) { s with heap := h', toks := tk }
  | [], [], H1, I1, _, _, _ => I1
  | [], _ :: _, H1, I1, _, hl, _ => by cases hl
  | _ :: _, [], H1, I1, _, hl, _ => by cases hl
  | a :: L, p :: ps, H1, I1, hn, hl, h => by
    obtain ⟨hb, hnone, ok⟩ := h 0 a p rfl rfl
    have I2 := I1.take (h' := h') (t' := tk) (fun b ob _ e => e) (I0.fpOk hb hnone) (ok _)
    rw [List.nodup_cons] at hn
    refine take_putV I0 L ps _ I2 hn.2 (by simpa using hl) fun j c q hc hq => ?_
    obtain ⟨c1, c2, c3⟩ := h (j + 1) c q (by simpa using hc) (by simpa using hq)
    exact ⟨c1, by rw [upd_ne (fun z => hn.1 (by rw [← z]; exact List.mem_of_getElem? hc))]; exact c2, c3⟩
def rListZip (K : PySem.W.Frag) : List V → Hp → VK → Prop := fun vs H Q => ∃ (a b : Addr) (xs ys : List V), vs = [.ref a, .ref b] ∧ SqA K H a xs ∧ SqA K H b ys ∧
  ∀ (L : List Addr) (p : Addr), L.length = (xs.zip ys).length → L.Nodup → (∀ t ∈ L, H t = none) → p ∉ L → H p = none → Q (.ref p) (upd (putV H L (xs.zip ys)) p (.lst (L.map V.ref)))
section
variable {X : Cx} {e1 e2 : Expr} {ta : TA} {p p2 pos pos2 : Pos}
theorem pe_listzip (hc : X.calm = true) (hg : Gl X "list") (hm : X.mg "list" = none) (hgz : Gl X "zip") (hmz : X.mg "zip" = none) (ha : PA X [e1, e2] ta)
    (hs : starEach [e1, e2] X.env = (false, eval e1 X.env) :: starEach [e2] X.env) (hpl : (backTo pos2 (starEach [e2] X.env)).any (·.1) = false)
    (ht : starEach [.Call (.Name "zip" p2) [e1, e2] [] pos2] X.env = (false, eval (.Call (.Name "zip" p2) [e1, e2] [] pos2) X.env) :: starEach [] X.env := by rfl) :
    PE X (.Call (.Name "list" p) [.Call (.Name "zip" p2) [e1, e2] [] pos2] [] pos) (tCB (rListZip X.K) ta) := by
  refine ⟨fun pins s σ H Q I h => ?_⟩
  refine wpAny_Call_Name_kw (ld_blt I hg hm (show bootBuiltins "list" = some (.type "list") by decide +kernel) ?_ (by decide) (by decide))
  refine callWith_type1 ?_ ht rfl
  rw [ht]
  refine Calls.spliced_cons (run_zip (p2 := p2) (pos2 := pos2) hgz hmz ha hs hpl I h fun vs H1 ⟨a, b, xs, ys, ex, qa, qb, q⟩ => ⟨a, b, _, _, ex, qa, qb, fun s1 us ws h1 f1 f2 St1 St2 I1 r1 r2 z Z => ?_⟩)
  refine Calls.spliced_nil ?_
  have l1 := r1.length
  have l2 := r2.length
  have hs5 : h1.objs.size = s1.heap.objs.size + 5 := Z.size
  have hle : s1.heap.objs.size ≤ h1.objs.size := by rw [hs5]; exact Nat.le_add_right _ _
  refine zip_list (s := { s1 with heap := h1 }) Z.sep (I.ok.hd hc) Z.d1 Z.d2 (by rw [List.size_toArray, List.size_toArray]; omega) Z.new Z.lts fun h' tk acc' c' kk hl ⟨bad, hb, ps⟩ => ?_
  have kS : ∀ b o, s1.heap.get? b = some o → h'.get? b = some o := fun b o e => kk b o (Z.old e) (Z.keep b o e)
  obtain ⟨L, hL⟩ := refs_exist (l := acc'.toList) fun v hv => by
    obtain ⟨j, hj⟩ := List.mem_iff_getElem?.mp hv
    obtain ⟨T, x, y, e, _⟩ := ps.2.1 j v (by rw [← Array.getElem?_toList]; exact hj)
    exact ⟨T, e⟩
  have at_ : ∀ (j : Nat) (T : Addr), L[j]? = some T → acc'[j]? = some (Value.ref T) := fun j T e => by
    rw [← Array.getElem?_toList, hL, List.getElem?_map, e]
    rfl
  have lL : L.length = (xs.zip ys).length := by
    have e1 : acc'.toList.length = L.length := by rw [hL, List.length_map]
    rw [Array.length_toList, ps.1, List.size_toArray, List.size_toArray] at e1
    rw [List.length_zip, l1, l2, e1]
  have nd : L.Nodup := by
    refine List.Pairwise.imp (R := (· < ·)) (fun h => Nat.ne_of_lt h) ?_
    rw [List.pairwise_iff_getElem]
    intro i j hi hj hij
    exact ps.2.2 i j _ _ hij (at_ i _ (List.getElem?_eq_getElem hi)) (at_ j _ (List.getElem?_eq_getElem hj))
  have above : ∀ T ∈ L, h1.objs.size < T := fun T hT => by
    obtain ⟨j, hj⟩ := List.mem_iff_getElem?.mp hT
    obtain ⟨T', x, y, e, _, _, _, g⟩ := ps.2.1 j _ (at_ j T hj)
    cases e
    exact g _ hb
  have new : ∀ t ∈ L, H1 t = none := fun t ht => I1.hok.fresh (Nat.le_trans hle (Nat.le_of_lt (above t ht)))
  have hpn : h1.objs.size ∉ L := fun hm => absurd (above _ hm) (Nat.lt_irrefl _)
  have hn0 : H1 h1.objs.size = none := I1.hok.fresh hle
  have J : Inv X pins σ H1 { s1 with heap := h', toks := tk } := I1.kept (t' := tk) kS
  have J2 := take_putV I1 L (xs.zip ys) H1 J nd lL fun j T q hj hq => by
    obtain ⟨T', x, y, e, g1, g2, g3, _⟩ := ps.2.1 j _ (at_ j T hj)
    cases e
    rw [List.getElem?_zip_eq_some] at hq
    obtain ⟨x', k1, k2⟩ := vals_get r1 (by simpa using g1)
    obtain ⟨y', k3, k4⟩ := vals_get r2 (by simpa using g2)
    have e1 : x' = q.1 := Option.some.inj (k1.symm.trans hq.1)
    have e2 : y' = q.2 := Option.some.inj (k3.symm.trans hq.2)
    rw [e1] at k2
    rw [e2] at k4
    exact ⟨Nat.le_trans hle (Nat.le_of_lt (above T (List.mem_of_getElem? hj))), new T (List.mem_of_getElem? hj), fun H3 => ⟨(by rw [sizeLine_eq]; show 2 ≤ 16777216; omega), [x, y], .cons k2 (.cons k4 .nil), ⟨_, g3, rfl, _, rfl⟩⟩⟩
  have hn1 : putV H1 L (xs.zip ys) h1.objs.size = none := by rw [putV_off L _ H1 hpn]; exact hn0
  have lr : (L.map V.ref).length ≤ sizeLine := by
    rw [List.length_map, lL, List.length_zip]
    omega
  have J3 : Inv X pins σ (upd (putV H1 L (xs.zip ys)) h1.objs.size (.lst (L.map V.ref))) { s1 with heap := h', toks := tk } :=
    J2.take (h' := h') (t' := tk) (fun b ob _ e => e) (I1.fpOk hle hn1) ⟨lr, acc'.toList, c', by rw [hL]; exact LiI.vals_refs L, by rw [Array.toArray_toList]; exact hl⟩
  exact ⟨.ref h1.objs.size, _, J3, rfl, q L h1.objs.size lL nd new hpn hn0⟩
end
/-! over the data -/
def seqD : D → Option (List D)
  | .lst ds => some ds
  | .tup ds => some ds
  | _ => none
def dictZipD : List D → Option Vl
  | [x, y] => match seqD x, seqD y with
    | some ds, some es => match keysD ds with
      | some ks => some (.fr (.dk (mergeD [] (ks.zip es))))
      | none => none
    | _, _ => none
  | _ => none
def listZipD : List D → Option Vl
  | [x, y] => match seqD x, seqD y with
    | some ds, some es => some (.fr (.lst (zipD ds es)))
    | _, _ => none
  | _ => none
section
variable {K : PySem.W.Frag} {A : Anc} {vs : L2.St} {env : Env}
theorem Rr.seq {B H : Hp} {d : D} {v : V} {ds : List D} (s : Same B H) (h : Rr K B H d v) (e : seqD d = some ds) : ∃ a xs, v = .ref a ∧ SqA K H a xs ∧ Rps K B ds xs := by
  cases d with
  | lst es =>
    cases e
    obtain ⟨a, xs, rfl, ha, r⟩ := h.lst s
    exact ⟨a, xs, rfl, .inl (.of ha), r⟩
  | tup es =>
    cases e
    obtain ⟨a, xs, rfl, ha, _, r⟩ := h.tup s
    exact ⟨a, xs, rfl, .inr (.of ha), r⟩
  | _ => cases e
theorem kp_zip {B : Hp} : ∀ {ks : List Key} {es : List D} {ys : List V}, Rps K B es ys → Kp K B (ks.zip es) (ks.zip ys)
  | [], _, _, _ => .nil
  | _ :: _, _, _, .nil => .nil
  | k :: ks, _, _, .cons r t => .cons ⟨rfl, r⟩ (kp_zip t)
theorem ps_dictZip : PrS K (rDictZip K) dictZipD := by
  intro A B H vs env xs ds res Q S rr e q
  unfold dictZipD at e
  split at e
  · split at e
    · rename_i x y ds1 es1 h1 h2
      split at e
      · rename_i ks hk
        cases e
        obtain ⟨u, v, rfl, r1, r2⟩ := pr2 rr
        obtain ⟨a, us, rfl, qa, ra⟩ := r1.seq S.same h1
        obtain ⟨b, ws, rfl, qb, rb⟩ := r2.seq S.same h2
        rw [ra.keys hk] at qa
        refine ⟨a, b, ks, ws, rfl, qa, qb, fun p hp => q B _ _ (Same.refl _) ?_⟩
        have h4 := kp_to (kp_merge (kp_zip (ks := ks) rb) (.nil : Kp K B ([] : List (Key × D)) []))
        exact S.push hp (.dk h4.1 h4.2)
      · cases e
    · cases e
  · cases e
theorem lay_zip : ∀ {L : List Addr} {xs ys : List V} {ds es : List D} {B H : Hp}, SR K A B H vs env → L.Nodup → L.length = (xs.zip ys).length → (∀ t ∈ L, H t = none) → Rps K B ds xs → Rps K B es ys →
    ∃ B', Same B B' ∧ SR K A B' (putV H L (xs.zip ys)) vs env ∧ Rps K B' (zipD ds es) (L.map V.ref)
  | L, _, ys, _, es, B, H, S, hn, hl, hH, .nil, r2 => by
    have hl : L.length = 0 := by simpa using hl
    rw [List.length_eq_zero_iff] at hl
    subst hl
    exact ⟨B, Same.refl _, S, .nil⟩
  | L, x :: xs, _, d :: ds, _, B, H, S, hn, hl, hH, .cons a1 t1, .nil => by
    have hl : L.length = 0 := by simpa using hl
    rw [List.length_eq_zero_iff] at hl
    subst hl
    exact ⟨B, Same.refl _, S, .nil⟩
  | L, x :: xs, y :: ys, d :: ds, e :: es, B, H, S, hn, hl, hH, .cons a1 t1, .cons a2 t2 => by
    cases L with
    | nil => simp at hl
    | cons a L =>
      rw [List.nodup_cons] at hn
      obtain ⟨B1, s1, S1, q1⟩ := VRp.tup S (hH a (List.mem_cons_self ..)) (.cons a1 (.cons a2 .nil))
      obtain ⟨B2, s2, S2, q2⟩ := lay_zip (L := L) S1 hn.2 (by simpa using hl) (fun t ht => by
        rw [upd_ne (fun z => hn.1 (by rw [← z]; exact ht))]
        exact hH t (List.mem_cons_of_mem _ ht)) (t1.mono s1) (t2.mono s1)
      exact ⟨B2, s1.trans s2, S2, .cons (q1.mono s2) q2⟩
theorem ps_listZip : PrS K (rListZip K) listZipD := by
  intro A B H vs env xs ds res Q S rr e q
  unfold listZipD at e
  split at e
  · split at e
    · rename_i x y ds1 es1 h1 h2
      cases e
      obtain ⟨u, v, rfl, r1, r2⟩ := pr2 rr
      obtain ⟨a, us, rfl, qa, ra⟩ := r1.seq S.same h1
      obtain ⟨b, ws, rfl, qb, rb⟩ := r2.seq S.same h2
      refine ⟨a, b, us, ws, rfl, qa, qb, fun L p hl hn hH hpn hp => ?_⟩
      obtain ⟨B', s', S', r'⟩ := lay_zip S hn hl hH ra rb
      exact q B' _ _ s' (.lst S' (by rw [putV_off L _ H hpn]; exact hp) r')
    · cases e
  · cases e
end
section
variable {g : G0} {c : Ct} {a b : Expr} {ms : M (List Vl)} {p p2 pos pos2 : Pos}
theorem ee_dictZip (hg : GlC c "dict") (hm : g.mg "dict" = none) (hgz : GlC c "zip") (hmz : g.mg "zip" = none) (h : EA g c [a, b] ms) (pl : Pl a) (pl2 : Pl b) :
    EE g c (.Call (.Name "dict" p) [.Call (.Name "zip" p2) [a, b] [] pos2] [] pos) (eP dictZipD ms) := by
  obtain ⟨t, h1, k1⟩ := h
  refine ⟨tCB (rDictZip g.K) t, fun X hX => ?_, fun A => sx_prim ps_dictZip (k1 A)⟩
  rw [← hX.eK]
  exact pe_dictzip hX.calm (gl_of hX hg) (by rw [hX.em]; exact hm) (gl_of hX hgz) (by rw [hX.em]; exact hmz) (h1 X hX) (pl [b] X.env) (by rw [pl2 [] X.env]; rfl)
theorem ee_listZip (hg : GlC c "list") (hm : g.mg "list" = none) (hgz : GlC c "zip") (hmz : g.mg "zip" = none) (h : EA g c [a, b] ms) (pl : Pl a) (pl2 : Pl b) :
    EE g c (.Call (.Name "list" p) [.Call (.Name "zip" p2) [a, b] [] pos2] [] pos) (eP listZipD ms) := by
  obtain ⟨t, h1, k1⟩ := h
  refine ⟨tCB (rListZip g.K) t, fun X hX => ?_, fun A => sx_prim ps_listZip (k1 A)⟩
  rw [← hX.eK]
  exact pe_listzip hX.calm (gl_of hX hg) (by rw [hX.em]; exact hm) (gl_of hX hgz) (by rw [hX.em]; exact hmz) (h1 X hX) (pl [b] X.env) (by rw [pl2 [] X.env]; rfl)
end
end PD
/-! ### enumerate(t), t a tuple -/
namespace PDE
open PySem PySem.Spec PyProof.Rows L2
theorem meets_enum1 {v : Value} {o : Obj} {H : Heap → Prop} (B : Begins v o H) : Meets (Builtin.«enumerate.__new__» ⟨[.type "enumerate", v], []⟩) (fun _ R s => H s.heap ∧
    R (.ok (.ret (.ref (s.heap.push o).objs.size))) { s with heap := (s.heap.push o).push { cls := .type "enumerate", data := .fields #[.none, .bool false, .ref s.heap.objs.size, rawInt 0, .none, .none] } }) :=
  .of_wp fun P0 w0 A0 R0 s0 g0 => by
    obtain ⟨hh, gg, dd, tt, oo⟩ := s0
    obtain ⟨g1, g2⟩ := g0
    have hsub := sub_enumerate
    have w1 : ∀ {A' : Around} {E' : Value → Shared → Prop} {Q' : Value → Shared → Prop}, Q' (.ref hh.objs.size) ⟨hh.push o, gg, dd, tt, oo⟩ → wpAny (model P0 w0) A' (pyIter v) Q' E' ⟨hh, gg, dd, tt, oo⟩ := fun q0 => B.iter P0 w0 _ _ ⟨hh, gg, dd, tt, oo⟩ _ g1 q0
    wp_walk using w1
    refine wpAny_stack_any fun z0 => wpAny_pure ?_
    split
    · rename_i c0 _ _ _ _ _
      cases (c0 == Value.type "enumerate") <;> (wp_walk using w1; exact ⟨_, rfl, g2⟩)
    · wp_walk using w1
      exact ⟨_, rfl, g2⟩
section
variable {prog : Program} {w : World} {A : Around} {E : Value → Shared → Prop} {s : Shared}
theorem call_enum1 {v : Value} {o : Obj} {H : Heap → Prop} {Q : Value → Shared → Prop} (B : Begins v o H) (h1 : H s.heap)
    (q : ∀ h', IsEnum h' (s.heap.objs.size + 1) s.heap.objs.size 0 .none → h'.get? s.heap.objs.size = some o → h'.objs.size = s.heap.objs.size + 2 → (∀ b u, s.heap.get? b = some u → h'.get? b = some u) → Q (.ref (s.heap.objs.size + 1)) { s with heap := h' }) :
    wpAny (model prog w) A (call (.type "enumerate") [v]) Q E s := by
  have hz : (s.heap.push o).objs.size = s.heap.objs.size + 1 := Heap.size_push ..
  refine callType_new F.called_enumerate (by decide) (F.typeCall_enumerate_1 _) (F.newCall_enumerate_1 _) (fun u => F.args_object_init_2 u _) F.entry_enumerate_new (meets_enum1 B) ⟨h1, ?_⟩
  show _ ∧ _
  rw [hz]
  have he : ((s.heap.push o).push { cls := .type "enumerate", data := .fields #[.none, .bool false, .ref s.heap.objs.size, rawInt 0, .none, .none] }).get? (s.heap.push o).objs.size = _ := Heap.get?_push_size (s.heap.push o) rfl
  rw [hz] at he
  exact ⟨⟨_, he, rfl⟩, q _ he (Heap.get?_push_of_some _ (Heap.get?_push_size _ B.free)) (by rw [Heap.size_push, hz]) fun b u x => Heap.get?_push_of_some _ (Heap.get?_push_of_some _ x)⟩
end
/-- the tuple at a, each item in a new pair -/
def IteT (K : PySem.W.Frag) (a : Addr) : It :=
  ⟨fun i H => ∃ (xs : List V) (x : V), SqT K H a xs ∧ xs[i]? = some x, fun i H v H' => ∃ T x, v = .ref T ∧ H T = none ∧ H' = upd H T (.tup [.int (i : Nat), x]) ∧ ∀ xs, SqT K H a xs → xs[i]? = some x, fun i H => ∃ xs : List V, SqT K H a xs ∧ xs.length = i⟩
theorem turn_enumT {P : Program} {w : World} {K : PySem.W.Frag} {elts : List Expr} {kk : Nat} {tpos : Pos} (a e it : Addr) :
    Turn P w K (.Tuple elts kk tpos) (IteT K a) [e, it] e (fun i h => (∃ old, IsEnum h e it ((i : Nat) : Int) old) ∧ h.IsTupleIter it a i ∧ e ≠ it ∧ e ≠ a ∧ a ≠ it) where
  mem := by simp
  obj := fun i h st b hb => by
    obtain ⟨⟨old, he⟩, ⟨o, ho, hc, hd⟩, _⟩ := st
    have hb : b = e ∨ b = it := by simpa using hb
    rcases hb with z | z
    · rw [z]; exact ⟨_, he, fun v q => nomatch q⟩
    · rw [z]; exact ⟨o, ho, fun v q => by rw [hd] at q; cases q⟩
  keep := fun i h h' st k => let ⟨⟨old, he⟩, hi, hne⟩ := st; ⟨⟨old, k e (by simp) _ he⟩, hi.at fun o q => k it (by simp) o q, hne⟩
  item := by
    intro X hP hw hK hc i pins s σ H E I hf st hg
    subst hP hw hK
    obtain ⟨⟨old, he⟩, hit, hne, hna, hai⟩ := st
    obtain ⟨xs, x, hq, hx⟩ := hg
    obtain ⟨its, rv, p, hz⟩ := I.tuple hq
    obtain ⟨u, hu, ru⟩ := rv.get hx
    have hel : e < s.heap.objs.size := Heap.lt_size he
    have hil : it < s.heap.objs.size := by obtain ⟨_, q, _⟩ := hit; exact Heap.lt_size q
    have ht : s.heap.IsTuple a its.toArray := p
    have hlt : i < its.toArray.size := by
      have := (List.getElem?_eq_some_iff.mp hu).1
      simpa using this
    refine wpAny_pyNext_enum_itemC (Draws.tuple (prog := X.prog) (w := X.w) (A := X.A.in1) (I.ok.hd hc) it a hai its.toArray) he ⟨hit, ht⟩ hlt hne (by simp; exact ⟨hne, hna⟩) fun x0 h' tk hx0 ho st' hT hsz hk => ?_
    have ex : x0 = u := by
      have e1 : its[i]? = some x0 := by simpa using hx0
      exact Option.some.inj (e1.symm.trans hu)
    subst ex
    refine ⟨_, rfl, wpAny_letOwnedTupleGo_enum (s := { s with heap := h', toks := tk + 1 }) ho fun h'' he' sb => ?_⟩
    have hT2 : h''.get? s.heap.objs.size = some { cls := .type "tuple", data := .seq #[.int i tk, x0] } := (sb.2 _ (Nat.ne_of_gt hel)).trans hT
    have I1 : Inv X pins σ (upd H s.heap.objs.size (.tup [.int (i : Nat), x])) { s with heap := h'', toks := tk + 1 } :=
      I.turnedNew (ch := [e, it]) (fun b ob hb q => (sb.2 b (fun z => hb (by simp [z]))).trans (hk b ob (fun z => hb (by simp [z])) (fun z => hb (by simp [z])) q)) hf (Nat.le_refl _) ⟨by show 2 ≤ sizeLine; decide, [.int i tk, x0], .cons ⟨_, rfl⟩ (.cons ru .nil), ⟨_, hT2, rfl, _, rfl⟩⟩
    refine ⟨.ref s.heap.objs.size, _, I1, rfl, ⟨_, x, rfl, I.hok.fresh (Nat.le_refl _), rfl, fun ys hy => by rw [I.tuple_inj hy hq]; exact hx⟩, ⟨⟨x0, ?_⟩, st'.1.at fun o q => (sb.2 it (Ne.symm hne)).trans q, hne, hna, hai⟩, fun b hb => ?_⟩
    · rw [show ((i + 1 : Nat) : Int) = (i : Int) + 1 by omega]
      exact he'
    · have hb' : b < s.heap.objs.size := by
        have h : b = e ∨ b = it := by simpa using hb
        rcases h with z | z <;> rw [z] <;> assumption
      rw [upd_ne (Nat.ne_of_lt hb')]
      exact (hf b hb).1
  done := by
    intro X hP hw hK hc i pins s σ H E I hf st hg
    subst hP hw hK
    obtain ⟨⟨old, he⟩, hit, hne, hna, hai⟩ := st
    obtain ⟨xs, hq, hx⟩ := hg
    obtain ⟨its, rv, p, hz⟩ := I.tuple hq
    obtain ⟨f0, f1, f2, f3, f4, f5⟩ := hf it (by simp)
    have hl := rv.length
    have ht : s.heap.IsTuple a its.toArray := p
    exact wpAny_pyNext_enum_endD (Draws.tuple (prog := X.prog) (w := X.w) (A := X.A.in1) (I.ok.hd hc) it a hai its.toArray) he (show _ from by rw [List.size_toArray, ← hl, hx]; exact ⟨hit, ht⟩) fun h' eb => ⟨rfl, I.turned (t' := s.toks) (fun b o hb q => eb b o hb q) f0 f1 f3 f4 f5⟩
  self := fun A i s Q E st h => let ⟨⟨_, he⟩, _⟩ := st; wpAny_pyIter_enum he h
def iEnumT (K : PySem.W.Frag) (ta : TA) : TI := fun σ H R => ta σ H fun vs H1 => ∃ a xs, vs = [.ref a] ∧ SqT K H1 a xs ∧ R (IteT K a) H1
theorem pi_enumT {X : Cx} {e : Expr} {ta : TA} {p pos tpos : Pos} {elts : List Expr} {kk : Nat} (hg : Gl X "enumerate") (hm : X.mg "enumerate" = none) (ha : PA X [e] ta) (hs : starEach [e] X.env = [(false, eval e X.env)]) :
    PI X (.Tuple elts kk tpos) (.Call (.Name "enumerate" p) [e] [] pos) (iEnumT X.K ta) := by
  refine ⟨fun pins s σ H R I h => ?_⟩
  refine Call_ (ld_blt I hg hm (show bootBuiltins "enumerate" = some (.type "enumerate") by decide +kernel) (callWith_type1 (thn (ha.run pos pins s σ H _ I h) fun us s1 ⟨vs, H1, I1, r1, a, xs, ex, hq, q⟩ => ?_) hs rfl))
  subst ex
  rw [Vals.ref1 r1]
  obtain ⟨its, rv, p', hz⟩ := I1.tuple hq
  have ht : s1.heap.IsTuple a its.toArray := p'
  have hal : a < s1.heap.objs.size := let ⟨_, e, _⟩ := ht; Heap.lt_size e
  refine call_enum1 (begins_tuple a its.toArray) ht fun h' he ho hsz hk => wpAny_pyIter_enum he ?_
  have I2 : Inv X pins σ H1 { s1 with heap := h' } := I1.kept (t' := s1.toks) hk
  refine ⟨s1.heap.objs.size + 1, [s1.heap.objs.size + 1, s1.heap.objs.size], _, _, H1, rfl, I2, turn_enumT a (s1.heap.objs.size + 1) s1.heap.objs.size, ⟨⟨.none, he⟩, ⟨_, ho, rfl, rfl⟩, Nat.succ_ne_self _, Nat.ne_of_gt (Nat.lt_succ_of_lt hal), Nat.ne_of_lt hal⟩, fun b hb => ?_, q⟩
  have hle : s1.heap.objs.size ≤ b := by
    have h : b = s1.heap.objs.size + 1 ∨ b = s1.heap.objs.size := by simpa using hb
    rcases h with z | z
    · rw [z]; exact Nat.le_add_right _ _
    · rw [z]; exact Nat.le_refl _
  exact I1.fpOk hle (I1.hok.fresh hle)
end PDE
namespace PD
open PySem PySem.Spec PyProof.Rows L2 PDE
def mEnumT (m : M Vl) : M (List D) := bd m fun r => bd (frz r.hold) fun d => match d with
  | .tup ds => rt (enumD 0 ds)
  | .tp ds => rt (enumD 0 ds)
  | _ => fun _ => none
section
variable {K : PySem.W.Frag} {A : Anc}
theorem wd_enumT {B0 : Hp} {a : Addr} {xs : List V} {ds : List D} (h : SqT K B0 a xs) (r : Rps K B0 ds xs) : WD K (IteT K a) B0 (enumD 0 ds) := by
  have hl := r.length
  refine ⟨fun i H B hi s1 s2 => ?_, fun H B s1 s2 => ?_, fun i H B x H' hi s1 s2 y => ?_⟩
  · rw [enumD_len, hl] at hi
    exact ⟨xs, xs[i], sameT s2 (sameT s1 h), List.getElem?_eq_getElem hi⟩
  · exact ⟨xs, sameT s2 (sameT s1 h), by rw [enumD_len, hl]⟩
  · obtain ⟨T, u, rfl, nT, rfl, f1⟩ := y
    have e1 := f1 _ (sameT s2 (sameT s1 h))
    obtain ⟨d, g1, r1⟩ := r.getV e1
    refine ⟨.tup [.int (i : Nat), d], by rw [enumD_get, g1, Nat.zero_add]; rfl, .inr ⟨T, _, _, rfl, nT, rfl, rfl, .cons (.int _) (.cons (r1.mono s1) .nil)⟩⟩
theorem si_enumT {t : TE} {m : M Vl} (h : SEX K A t m) : SIX K A (iEnumT K (tCons t tNil)) (mEnumT m) := fun σ τ B H env pe env' ds R S hl e q => by
  obtain ⟨r, e1, h1, f1⟩ := bd_inv e
  obtain ⟨d, e2, h2, f2⟩ := bd_inv f1
  refine h σ τ B H env pe e1 r _ S hl h1 fun B1 H1 v s1 hl1 hv => ?_
  obtain ⟨B2, s2, S2, hh⟩ := hv.held
  obtain ⟨B3, s3, S3, hl3, rr⟩ := frz_ok S2 hl1 hh h2
  split at f2
  · cases f2
    cases rr with
    | tup p1 r1 => exact ⟨_, _, rfl, (p1.same S3.same).sq, q B3 H1 _ ((s1.trans s2).trans s3) hl3 S3 (wd_enumT p1.sq r1)⟩
  · cases f2
    cases rr with
    | tp p1 _ r1 => exact ⟨_, _, rfl, .inl (.inr ⟨_, S3.same _ _ p1⟩), q B3 H1 _ ((s1.trans s2).trans s3) hl3 S3 (wd_enumT (.inl (.inr ⟨_, p1⟩)) r1)⟩
  · cases f2
end
theorem ei_enumT {g : G0} {c : Ct} {a : Expr} {m : M Vl} {p pos tpos : Pos} {elts : List Expr} {kk : Nat} (hg : GlC c "enumerate") (hm : g.mg "enumerate" = none) (h : EE g c a m) (pl : Pl a) : EI g c (.Tuple elts kk tpos) (.Call (.Name "enumerate" p) [a] [] pos) (mEnumT m) := by
  obtain ⟨t, h1, h2⟩ := h
  exact ⟨iEnumT g.K (tCons t tNil), fun X hX => by
    rw [← hX.eK]
    exact pi_enumT (gl_of hX hg) (by rw [hX.em]; exact hm) (pa_cons (h1 X hX) pa_nil (pl [] X.env)) (by rw [pl [] X.env]; rfl), fun A => si_enumT (h2 A)⟩
end PD
namespace PD
open PySem PySem.Spec PyProof.Rows L2
/-! ### running rules for the new steps -/
theorem W_mEnumT {e : Env} {m : M Vl} {Q : List D → Env → Prop} : @W _ (mEnumT m) e ⟨Q⟩ = @W _ m e ⟨fun r e1 => @W _ (frz r.hold) e1 ⟨fun d e2 => @WO _ (seqT d) ⟨fun l => Q (enumD 0 l) e2⟩⟩⟩ := by
  unfold mEnumT
  simp only [W_eq, WO_eq, bd]
  cases m e with
  | none => rfl
  | some p =>
    dsimp only
    try rw [W_eq]
    cases frz p.1.hold p.2 with
    | none => rfl
    | some q =>
      obtain ⟨d, e2⟩ := q
      dsimp only
      try rw [WO_eq]
      cases d <;> rfl
/-- the keys are put for good -/
theorem putD_new {κ : Type} [DecidableEq κ] {es : List (κ × D)} {k : κ} {d : D} (h : ∀ e ∈ es, e.1 ≠ k) : putD es k d = es ++ [(k, d)] := by
  unfold putD
  rw [if_neg]
  intro z
  obtain ⟨e, he, hk⟩ := List.any_eq_true.mp z
  exact h e he (of_decide_eq_true hk)
theorem mem_putD {κ : Type} [DecidableEq κ] {es : List (κ × D)} {k : κ} {d : D} {e : κ × D} (h : e ∈ putD es k d) : e ∈ es ∨ e = (k, d) := by
  unfold putD at h
  split at h
  · obtain ⟨x, hx, rfl⟩ := List.mem_map.mp h
    split
    · rename_i e1
      exact .inr (by rw [e1])
    · exact .inl hx
  · rcases List.mem_append.mp h with h | h
    · exact .inl h
    · exact .inr (List.mem_singleton.mp h)
theorem putD_len {κ : Type} [DecidableEq κ] (es : List (κ × D)) (k : κ) (d : D) : (putD es k d).length ≤ es.length + 1 := by
  unfold putD
  split
  · rw [List.length_map]
    omega
  · rw [List.length_append, List.length_singleton]
    exact Nat.le_refl _
theorem getK_put {κ : Type} [DecidableEq κ] : ∀ {es : List (κ × D)} {k k' : κ} {d : D}, getK (putD es k d) k' = if k = k' then some d else getK es k'
  | [], k, k', d => by
    unfold putD getK
    by_cases h : k = k' <;> simp [h]
  | e :: es, k, k', d => by
    have ih := getK_put (es := es) (k := k) (k' := k') (d := d)
    unfold putD getK at ih ⊢
    by_cases h1 : e.1 = k
    · by_cases h2 : k = k'
      · subst h2
        simp [h1]
      · have h3 : ¬ e.1 = k' := fun z => h2 (h1.symm.trans z)
        simp only [List.any_cons, h1, decide_true, Bool.true_or, if_true, List.map_cons, List.find?_cons, h2, decide_false]
        have hm : ∀ l : List (κ × D), ((l.map fun e => if e.1 = k then (e.1, d) else e).find? fun e => decide (e.1 = k')) = l.find? fun e => decide (e.1 = k') := by
          intro l
          induction l with
          | nil => rfl
          | cons x r ihr =>
            rw [List.map_cons, List.find?_cons, List.find?_cons, ihr]
            by_cases hx : x.1 = k
            · rw [if_pos hx]
              have : ¬ x.1 = k' := fun z => h2 (hx.symm.trans z)
              simp [this]
            · rw [if_neg hx]
        rw [hm]
        simp
    · by_cases h3 : e.1 = k'
      · have h2 : ¬ k = k' := fun z => h1 (h3.trans z.symm)
        have h4 : decide (e.1 = k') = true := decide_eq_true h3
        rw [if_neg h2]
        split
        · rw [List.map_cons, if_neg h1, List.find?_cons, List.find?_cons, h4]
        · rw [List.cons_append, List.find?_cons, List.find?_cons, h4]
      · simp only [List.any_cons, h1, decide_false, Bool.false_or]
        split at ih
        · rename_i ha
          rw [if_pos ha]
          simp only [List.map_cons, if_neg h1, List.find?_cons, h3, decide_false]
          exact ih
        · rename_i ha
          rw [if_neg ha]
          simp only [List.cons_append, List.find?_cons, h3, decide_false]
          exact ih
theorem getK_append {κ : Type} [DecidableEq κ] {es fs : List (κ × D)} {k : κ} (h : ∀ e ∈ es, e.1 ≠ k) : getK (es ++ fs) k = getK fs k := by
  unfold getK
  rw [List.find?_append, List.find?_eq_none.mpr fun e he => by simpa using h e he]
  rfl
theorem getK_mem {κ : Type} [DecidableEq κ] {es : List (κ × D)} {k : κ} {d : D} (h : getK es k = some d) : (k, d) ∈ es := by
  unfold getK at h
  obtain ⟨e, he, rfl⟩ := Option.map_eq_some_iff.mp h
  have h1 := List.find?_some he
  have h2 := List.mem_of_find?_eq_some he
  have : e.1 = k := of_decide_eq_true h1
  rw [← this]
  exact h2
theorem getK_some {κ : Type} [DecidableEq κ] {es : List (κ × D)} {k : κ} {d : D} (h : (k, d) ∈ es) : ∃ d', getK es k = some d' := by
  unfold getK
  cases hf : es.find? fun e => decide (e.1 = k) with
  | some e => exact ⟨_, rfl⟩
  | none =>
    have := List.find?_eq_none.mp hf (k, d) h
    simp at this
theorem keyOk_as {n : Nat} {x : Str} (h : As n x) : keyOk (.inr x) = true := h.ok
/-- dict(t) of a tuple of pairs whose keys are texts -/
theorem pairsK_of : ∀ {ds : List D} {P : D → Prop}, (∀ d ∈ ds, ∃ x v, d = .tup [.str x, v] ∧ P v) → ∃ es, pairsK ds = some es ∧ es.length = ds.length ∧ ∀ e ∈ es, ∃ x, e.1 = .inr x ∧ P e.2 ∧ D.tup [.str x, e.2] ∈ ds
  | [], P, _ => ⟨[], rfl, rfl, fun e h => by simp at h⟩
  | d :: ds, P, h => by
    obtain ⟨x, v, rfl, hv⟩ := h _ (List.mem_cons_self ..)
    obtain ⟨es, h1, h2, h3⟩ := pairsK_of (ds := ds) (P := P) fun d hd => h d (List.mem_cons_of_mem _ hd)
    refine ⟨(.inr x, v) :: es, ?_, by rw [List.length_cons, List.length_cons, h2], fun e he => ?_⟩
    · show (match keyD (.str x), pairsK ds with | some k, some es => some ((k, v) :: es) | _, _ => none) = _
      rw [h1]
      rfl
    · rcases List.mem_cons.mp he with rfl | he
      · exact ⟨x, rfl, hv, List.mem_cons_self ..⟩
      · obtain ⟨x', g1, g2, g3⟩ := h3 e he
        exact ⟨x', g1, g2, List.mem_cons_of_mem _ g3⟩
theorem mem_mergeD : ∀ {more es : List (Key × D)} {e : Key × D}, e ∈ mergeD es more → e ∈ es ∨ e ∈ more
  | [], es, e, h => .inl h
  | m :: more, es, e, h => by
    rcases mem_mergeD (more := more) (es := putD es m.1 m.2) h with h | h
    · rcases mem_putD h with h | h
      · exact .inl h
      · exact .inr (by rw [h]; exact List.mem_cons_self ..)
    · exact .inr (List.mem_cons_of_mem _ h)
theorem len_mergeD : ∀ (more es : List (Key × D)), (mergeD es more).length ≤ es.length + more.length
  | [], es => Nat.le_refl _
  | m :: more, es => by
    have h1 := len_mergeD more (putD es m.1 m.2)
    have h2 := putD_len es m.1 m.2
    show (mergeD (putD es m.1 m.2) more).length ≤ _
    rw [List.length_cons]
    omega
end PD
namespace PD
open PySem PySem.Spec PyProof.Rows L2
/-! ### what is sorted, and what is equal -/
theorem dataLe_tot (k : D → PyData) : PySem.W.TotalLe (PySem.W.dataLe false k) := PySem.W.sortLe_total _ _ _
theorem sortL_pw (ds : List D) : (sortL ds).Pairwise fun a b => PySem.W.dataLe false D.py a b = true :=
  List.pairwise_mergeSort (fun a b c => (dataLe_tot D.py).trans a b c) (fun a b => by
    have := (dataLe_tot D.py).total a b
    simpa using this) ds
theorem dataLe_anti {a b : D} (h1 : PySem.W.dataLe false D.py a b = true) (h2 : PySem.W.dataLe false D.py b a = true) : PySem.W.keyToks a.py = PySem.W.keyToks b.py := by
  have g1 : (!(listOrd itemOrd).blt (PySem.W.keyToks b.py) (PySem.W.keyToks a.py)) = true := h1
  have g2 : (!(listOrd itemOrd).blt (PySem.W.keyToks a.py) (PySem.W.keyToks b.py)) = true := h2
  rw [Bool.not_eq_true'] at g1 g2
  exact (listOrd itemOrd).total _ _ g2 g1
/-- the same things, sorted, are the same list -/
theorem sortL_eq {ds es : List D} (p : ds.Perm es) (inj : ∀ a ∈ ds, ∀ b ∈ ds, PySem.W.keyToks a.py = PySem.W.keyToks b.py → a = b) : sortL ds = sortL es := by
  have q : (sortL ds).Perm (sortL es) := (sortL_perm ds).trans (p.trans (sortL_perm es).symm)
  refine List.Perm.eq_of_pairwise (fun x y hx hy h1 h2 => ?_) (sortL_pw ds) (sortL_pw es) q
  exact inj x (sortL_mem.mp hx) y (p.mem_iff.mpr (sortL_mem.mp hy)) (dataLe_anti h1 h2)
/-- pairs of a text and a number are told apart by their keys -/
theorem toks_si {x y : Str} {m n : Int} (h : PySem.W.keyToks (D.tup [.str x, .int m]).py = PySem.W.keyToks (D.tup [.str y, .int n]).py) : x = y ∧ m = n := by
  simp only [D.py, pys, PySem.W.keyToks, PySem.W.keyToksAll, List.cons_append, List.nil_append, List.cons.injEq, true_and, Sum.inr.injEq, Sum.inl.injEq, and_true] at h
  refine ⟨?_, h.2⟩
  obtain ⟨x⟩ := x
  obtain ⟨y⟩ := y
  have : x = y := Array.ext' h.1
  rw [this]
theorem neD_refl {d : D} (h1 : d.isPy = true) (h2 : d.py.canLay0 = true) (h3 : d.py.depth ≤ 64) : neD [d, d] = some (.im (.bl false)) := by
  rw [neD_py h1 h1 (decide_eq_true h3)]
  have : eqB d d = true := PySem.SeqAt.eqv_refl d.py h2
  rw [this]
  rfl
end PD
namespace PD
open PySem PySem.Spec PyProof.Rows L2
/-! ### a, b = a list -/
def gTl (n : Nat) (gs : List D → M Unit) : Vl → M Unit := fun r e => match r.hold with
  | .im (.lst ds) => if ds.length = n then gs ds e else none
  | _ => none
theorem sg_tl {K : PySem.W.Frag} {A : Anc} {ts : List Nat} {t : TGs} {gs : List D → M Unit} {n : Nat} (h : SGsX K A ts t gs) : SGX K A ts (gLst K n t) (gTl n gs) := fun σ τ B H env pe env' r v Q hv hl e q => by
  obtain ⟨B1, s1, S1, hh⟩ := hv.held
  unfold gTl at e
  split at e
  · rename_i ds hr
    rw [hr] at hh
    split at e
    · rename_i hn
      have hh : Rp K B1 (.lst ds) v := hh
      cases hh with
      | @lst a xs _ hs r2 =>
        exact ⟨a, xs, rfl, .of (S1.same _ _ hs), by rw [← r2.length]; exact hn, h σ τ B1 H env pe env' ds xs Q S1 r2 hl e fun σ' B' H' s2 a1 a2 a3 => q σ' B' H' (s1.trans s2) a1 a2 a3⟩
    · cases e
  · cases e
theorem eg_tl {g : G0} {c : Ct} {es : List Expr} {pos : Pos} {ts : List Nat} {gs : List D → M Unit} {k n : Nat} (h : EGs g c es ts gs) (hn : ∀ env : PySem.Env, (assignEach es env).length = n) (hst : ∀ env : PySem.Env, (assignEach es env).findIdx? (·.1) = none) : EG g c (.Tuple es k pos) ts (gTl n gs) := by
  obtain ⟨t, h1, h2⟩ := h
  exact ⟨gLst g.K n t, fun X hX => by
    rw [← hX.eK]
    exact pg_lst hX.calm (h1 X hX) (hn X.env) (hst X.env), fun A => sg_tl (h2 A)⟩
theorem W_gTl {e : Env} {n : Nat} {gs : List D → M Unit} {r : Vl} {Q : Unit → Env → Prop} : @W _ (gTl n gs r) e ⟨Q⟩ = @WO _ (match r.hold with | .im d => seqL d | _ => none) ⟨fun ds => @WC (decide (ds.length = n)) ⟨@W _ (gs ds) e ⟨Q⟩⟩⟩ := by
  unfold gTl WC
  simp only [W_eq, WO_eq]
  cases r.hold with
  | im d =>
    cases d <;> try rfl
    rename_i ds
    by_cases h : ds.length = n <;> simp [h, seqL]
  | fr d => rfl
  | bo i => rfl
end PD
namespace PD
open PySem PySem.Spec PyProof.Rows L2
/-! ### str(x) of a text, of a list or tuple of data -/
def strD : List D → Option Vl
  | [.str x] => some (.im (.str x))
  | [.lst ds] => reprD [.lst ds]
  | [.tup ds] => reprD [.tup ds]
  | [.tp ds] => reprD [.tp ds]
  | _ => none
def rStr (K : PySem.W.Frag) : List V → Hp → VK → Prop := fun xs H Q => (∃ x, xs = [.str x] ∧ Q (.str x) H) ∨ ∃ p d, xs = [.ref p] ∧ Dp K H (.ref p) d ∧ d.showable = true ∧ d.canLay0 = true ∧ d.shown.length ≤ sizeLine ∧ d.depth ≤ 60 ∧ Q (.str d.shown) H
theorem call_strD {X : Cx} {k : Nat} (hr : Room k X.A) (hg : X.A.guards = some []) : CallR X (.type "str") (rStr X.K) := by
  intro pins s σ H xs us Q I r h
  rcases h with ⟨x, rfl, q⟩ | ⟨p, d, rfl, hd, sh, lay, sz, dep, q⟩
  · obtain ⟨u, rfl, ru⟩ := vals1 r
    obtain ⟨t, rfl⟩ := ru
    exact PySem.P.str_of_str ⟨.str _, H, I, ⟨_, rfl⟩, q⟩
  · rw [Vals.ref1 r]
    obtain ⟨as, rd⟩ := Dp.reads I _ _ _ hd rfl
    refine str_of_reads rd sh (PyData.noDict_hsm (PyData.hasDict_of_canLay _ lay)) hg (by have := hr.un; omega) (fun _ _ e => e) (fun h' u tk hk => ?_) sz
    exact ⟨.str _, H, I.kept (t' := tk) hk, ⟨u, rfl⟩, q⟩
theorem strD_seq {K : PySem.W.Frag} {A : Anc} {B H : Hp} {vs : L2.St} {env : Env} {d : D} {v : V} {res : Vl} {Q : VK} (S : SR K A B H vs env) (r : Rr K B H d v) (hp : ∃ p, v = .ref p) (e : reprD [d] = some res) (q : ∀ B' H' v, Same B B' → VRp K A B' H' vs env res v → Q v H') : rStr K [v] H Q := by
  obtain ⟨p, rfl⟩ := hp
  unfold reprD at e
  dsimp only at e
  split at e
  · rename_i hd
    cases e
    simp only [Bool.and_eq_true] at hd
    obtain ⟨⟨h1, h2⟩, h3⟩ := hd
    exact .inr ⟨p, d.py, rfl, r.dp S.same (shw_py h1).2, (shw_py h1).1, r.lay, Nat.le_trans (shown_leR h1 r) (of_decide_eq_true h2), of_decide_eq_true h3, q B H _ (Same.refl _) ⟨S, .txt _⟩⟩
  · cases e
theorem ca_str {g : G0} : CaI g (.type "str") strD := by
  refine ⟨rStr g.K, fun c X hX => by rw [← hX.eK]; exact call_strD hX.room hX.gu, fun A B H vs env xs ds res Q S rr e q => ?_⟩
  unfold strD at e
  split at e
  · rename_i x
    cases e
    obtain ⟨v, rfl, r⟩ := pr1 rr
    have hv := r.str
    obtain ⟨rfl, _⟩ := hv
    refine .inl ⟨x, rfl, q B H _ (Same.refl _) ⟨S, ?_⟩⟩
    cases r with
    | fz r => exact r
  · obtain ⟨v, rfl, r⟩ := pr1 rr
    obtain ⟨a, us, rfl, _⟩ := r.lst S.same
    exact strD_seq S r ⟨_, rfl⟩ e q
  · obtain ⟨v, rfl, r⟩ := pr1 rr
    refine strD_seq S r ?_ e q
    cases r with
    | fz r => cases r with
      | tup _ _ => exact ⟨_, rfl⟩
    | ct c => exact ⟨_, rfl⟩
  · obtain ⟨v, rfl, r⟩ := pr1 rr
    refine strD_seq S r ?_ e q
    cases r with
    | fz r => cases r with
      | tp _ _ _ => exact ⟨_, rfl⟩
    | ct c => exact ⟨_, rfl⟩
  · cases e
theorem str_ok {t : Ty} {d : D} (h : Has t d) (hs : t.shw = true) (hw : t.wt ≤ 16777216) (hd : t.dep ≤ 60) (hk : strD [d] = reprD [d]) : strD [d] = some (.im (.txt d.py.shown)) := by
  rw [hk]
  exact repr_ok h hs hw hd
/-! ### a written tuple that is known to be bare -/
def tTupB (t : TA) : TE := fun σ H Q => t σ H fun xs H1 => xs.length ≤ sizeLine ∧ ∀ (p : Addr) (o : Obj), H1 p = none → o.dict = none → Q (.ref p) (upd H1 p (.frz o (.tup xs)))
theorem pe_tupBare {X : Cx} {es : List Expr} {pos : Pos} {t : TA} {x1} (h : PA X es t) : PE X (.Tuple es x1 pos) (tTupB t) := by
  refine ⟨fun pins s σ H Q I hq => ?_⟩
  refine wpAny_Tuple_spliced (thn (h.run pos pins s σ H _ I hq) fun us s1 ⟨xs, H1, I1, r, z, q⟩ => ⟨by rw [← r.length]; exact z, ?_⟩)
  have hf : H1 s1.heap.objs.size = none := I1.hok.fresh (Nat.le_refl _)
  have new : (s1.heap.push { cls := .type "tuple", data := .seq us.toArray }).get? s1.heap.objs.size = some { cls := .type "tuple", data := .seq us.toArray } := Heap.get?_push_size _ rfl
  exact ⟨.ref s1.heap.objs.size, _, I1.laid (t' := s1.toks) (o := .frz { cls := .type "tuple", data := .seq us.toArray } (.tup xs)) (fun b u e => Heap.get?_push_of_some _ e) (Nat.le_refl _) ⟨new, z, us, r, IsTup.new _ _⟩, rfl, q _ _ hf rfl⟩
def eTupB (ms : M (List Vl)) : M Vl := bd ms fun rs => bd (frzs rs) fun ds => if small ds.length = true then rt (.im (.tp ds)) else fun _ => none
section
variable {K : PySem.W.Frag} {A : Anc}
theorem sx_tupBare {ta : TA} {ms : M (List Vl)} (ha : SAX K A ta ms) : SEX K A (tTupB ta) (eTupB ms) := fun σ τ B H env pe env' r Q S hl e q => by
  unfold eTupB bd at e
  split at e
  · rename_i rs e1 he
    try dsimp only at e
    split at e
    · rename_i ds e2 hes
      try dsimp only at e
      split at e
      · rename_i hsm
        cases e
        refine ha σ τ B H env pe e1 rs _ S hl he fun B1 H1 vs s1 hl1 S1 hr => ?_
        obtain ⟨B2, s2, S2, hl2, r2⟩ := frzs_ok S1 hl1 hr hes
        refine ⟨by rw [← r2.length]; exact of_decide_eq_true hsm, fun p o hp ho => ?_⟩
        obtain ⟨S3, s3⟩ := S2.laidF (o := .frz o (.tup vs)) hp
        exact q _ _ _ ((s1.trans s2).trans s3) hl2 ⟨S3, .tp upd_same ho (r2.mono s3)⟩
      · cases e
    · cases e
  · cases e
end
theorem ee_tupB {g : G0} {c : Ct} {es : List Expr} {pos : Pos} {ms : M (List Vl)} {x1} (h : EA g c es ms) : EE g c (.Tuple es x1 pos) (eTupB ms) := by
  obtain ⟨t, h1, h2⟩ := h
  exact ⟨_, fun X hX => pe_tupBare (h1 X hX), fun A => sx_tupBare (h2 A)⟩
theorem W_eTupB {e : Env} {ms : M (List Vl)} {Q : Vl → Env → Prop} : @W _ (eTupB ms) e ⟨Q⟩ = @W _ ms e ⟨fun rs e1 => @W _ (frzs rs) e1 ⟨fun ds e2 => @WC (small ds.length) ⟨Q (.im (.tp ds)) e2⟩⟩⟩ := by
  unfold eTupB
  simp only [W_eq, bd]
  cases ms e with
  | none => rfl
  | some p =>
    dsimp only
    cases frzs p.1 p.2 with
    | none => rfl
    | some q =>
      dsimp only
      unfold WC
      cases small q.1.length <;> simp [rt]
/-! ### x += e, x -= e of whole numbers -/
def sAug (i : Nat) (f : Int → Int → Int) (m : M Vl) : SM := fun e => match e[i]? with
  | some (.im (.int a)) => match m e with
    | some (.im (.int b), e1) => match gN i (.im (.int (f a b))) e1 with
      | some (_, e2) => some (.nx, e2)
      | none => none
    | _ => none
  | _ => none
section
variable {K : PySem.W.Frag} {A : Anc}
theorem ss_aug {i : Nat} {f : Int → Int → Int} {t : TE} {m : M Vl} (h : SEX K A t m) : SSX K A (tAug i t (ipI f)) (sAug i f m) := fun σ B H env env' fl E S e q => by
  unfold sAug at e
  split at e
  · rename_i a ha
    split at e
    · rename_i b e1 he
      split at e
      · rename_i e2 hg
        cases e
        have hi : i < σ.length := by
          rw [S.len]
          exact (List.getElem?_eq_some_iff.mp ha).1
        have hσ := List.getElem?_eq_getElem hi
        cases hx : σ[i] with
        | none =>
          rw [hx] at hσ
          cases S.slot i _ _ ha hσ
        | some v =>
          rw [hx] at hσ
          cases S.slot i _ _ ha hσ with
          | im rr =>
            cases rr
            refine ⟨_, hσ, h σ [] B H env [] e1 _ _ S.nil_app S.len he fun B1 H1 v s1 hl1 hv => ?_⟩
            obtain ⟨S1, r1⟩ := hv
            cases r1
            refine ⟨a, b, rfl, rfl, ?_⟩
            unfold gN at hg
            split at hg
            · cases hg
              exact q _ B1 H1 s1 (S1.app_nil.setIm (i := i) (.int _))
            · cases hg
      · cases e
    · cases e
  · cases e
end
section
variable {g : G0} {c : Ct} {a : Expr} {m : M Vl} {pos pos' : Pos}
theorem es_augAdd {i : Nat} {x : Str} (hN : c.N[i]? = some x) (hv : Loc c.sc x) (h : EE g c a m) (hf : c.fb x = true ∨ c.sc.names.lookup x = some .local) : ES g c (.AugAssign (.Name x pos') .Add a pos) (sAug i (fun i j => i + j) m) := by
  obtain ⟨t, h1, h2⟩ := h
  exact ⟨_, fun X hX => ps_aug hX.nd (by rw [hX.eN]; exact hN) (by rw [hX.es]; exact hv) (h1 X hX) ip_add (hf.elim (fun z => .inl (hX.fn x z)) fun z => .inr (by rw [hX.es]; exact z)), fun A => ss_aug (h2 A)⟩
theorem es_augSub {i : Nat} {x : Str} (hN : c.N[i]? = some x) (hv : Loc c.sc x) (h : EE g c a m) (hf : c.fb x = true ∨ c.sc.names.lookup x = some .local) : ES g c (.AugAssign (.Name x pos') .Sub a pos) (sAug i (fun i j => i - j) m) := by
  obtain ⟨t, h1, h2⟩ := h
  exact ⟨_, fun X hX => ps_aug hX.nd (by rw [hX.eN]; exact hN) (by rw [hX.es]; exact hv) (h1 X hX) ip_sub (hf.elim (fun z => .inl (hX.fn x z)) fun z => .inr (by rw [hX.es]; exact z)), fun A => ss_aug (h2 A)⟩
end
theorem W_sAug {e : Env} {i : Nat} {f : Int → Int → Int} {m : M Vl} {Q : Fl → Env → Prop} : @W _ (sAug i f m) e ⟨Q⟩ = @WO _ e[i]? ⟨fun sl => match sl with
    | .im (.int a) => @W _ m e ⟨fun r e1 => match r with | .im (.int b) => @WO _ (setO e1 i (.im (.int (f a b)))) ⟨fun e2 => Q .nx e2⟩ | _ => False⟩
    | _ => False⟩ := by
  unfold sAug
  simp only [W_eq, WO_eq]
  cases e[i]? with
  | none => rfl
  | some sl =>
    cases sl with
    | em => rfl
    | ow d => rfl
    | io j d => rfl
    | im d =>
      cases d with
      | int a =>
        dsimp only
        cases m e with
        | none => rfl
        | some p =>
          obtain ⟨r, e1⟩ := p
          cases r with
          | fr d => rfl
          | bo j => rfl
          | im d =>
            cases d with
            | int b =>
              dsimp only
              rw [← setO_ok]
              unfold gN
              by_cases h : i < e1.length
              · rw [if_pos h, if_pos h]
              · rw [if_neg h, if_neg h]
            | _ => rfl
      | _ => rfl
/-! ### x = e where the scope must be known -/
theorem es_setC {g : G0} {c : Ct} {e : Expr} {m : M Vl} {pos : Pos} {i : Nat} {x : Str} {pos' : Pos} (hN : c.N[i]? = some x) (hv : Loc c.sc x) (h : EE g c e m) (hs : ∀ env : PySem.Env, env.scope = c.sc → swapsWith e (some (.Name x pos')) pos.line env = pure false) (hf : c.fb x = true ∨ c.sc.names.lookup x = some .local) :
    ES g c (.Assign [.Name x pos'] e pos) (sAsg m (gN i)) := by
  obtain ⟨t, h1, h2⟩ := h
  exact ⟨_, fun X hX => ps_set hX.nd (by rw [hX.eN]; exact hN) (by rw [hX.es]; exact hv) (h1 X hX) (hs X.env hX.es) (hf.elim (fun z => .inl (hX.fn x z)) fun z => .inr (by rw [hX.es]; exact z)), fun A => ss_asg (h2 A) sg_name⟩
/-! ### xs.clear(), xs.insert(i, x) -/
def clearD : D → List D → Option (D × D)
  | .lst _, [] => some (.lst [], .non)
  | _, _ => none
theorem mu_clear {g : G0} : MuI g "list" "clear" "list.clear" clearD := ⟨F.plainAttrs_list, F.slot_list_clear, F.type_list_clear, _, fun c X hX => mt_clear, fun B H p d0 d' x ds xs Q s c r e q => by
  unfold clearD at e
  split at e
  · cases e
    obtain ⟨ys, hy, rr⟩ := cont_lst c
    cases r
    exact ⟨p, ys, rfl, rfl, hy, q _ _ (.lst .nil) .non⟩
  · cases e⟩
def insertD : D → List D → Option (D × D)
  | .lst ds, [.int i, d] => if (lessL ds.length && (decide (0 ≤ i) && decide (i < 2 ^ 63))) = true then some (.lst (ds.take i.toNat ++ [d] ++ ds.drop i.toNat), .non) else none
  | _, _ => none
theorem mu_insert {g : G0} : MuI g "list" "insert" "list.insert" insertD := ⟨F.plainAttrs_list, F.slot_list_insert, F.type_list_insert, _, fun c X hX => mt_insert, fun B H p d0 d' x ds xs Q s c r e q => by
  unfold insertD at e
  split at e
  · rename_i ds0 i d
    split at e
    · rename_i hl
      cases e
      simp only [Bool.and_eq_true, decide_eq_true_eq] at hl
      obtain ⟨ys, hy, rr⟩ := cont_lst c
      obtain ⟨v, w, rfl, rv, rw'⟩ := rps2 r
      cases rv
      exact ⟨p, ys, i, w, rfl, rfl, hy, by rw [← rr.length]; exact of_decide_eq_true hl.1, hl.2.1, hl.2.2, q _ _ (.lst (((rr.take _).app (.one rw')).app (rr.drop _))) .non⟩
    · cases e
  · cases e⟩
end PD
namespace PD
open PySem PySem.Spec PyProof.Rows L2
/-! ### tools -/
theorem W_comp_fltA {α : Type} (c : α → D) (p : α → Bool) (f : α → D) {e : PD.Env} {vs : List Nat} {g : Vl → M Unit} {tt : M Bool} {te : M Vl} {Q : List D → PD.Env → Prop} : ∀ {ws : List α},
    (∀ w, w ∈ ws → @W _ (g (.im (c w))) e ⟨fun _ e1 => @W _ tt e1 ⟨fun b e2 => @WB b ⟨@W _ te e2 ⟨fun r e3 => @W _ (frz r.hold) e3 ⟨fun y e4 => p w = true ∧ y = f w ∧ wipeE e4 vs = e⟩⟩, p w = false ∧ wipeE e2 vs = e⟩⟩⟩) →
    Q ((ws.filter p).map f) e → @W _ (compL vs g tt te (ws.map c)) e ⟨Q⟩ := by
  intro ws hs hq
  refine ⟨_, _, ?_, hq⟩
  clear hq
  induction ws with
  | nil => rfl
  | cons w ws ih =>
    have ih := ih fun d hd => hs d (List.mem_cons_of_mem _ hd)
    obtain ⟨_, e1, h1, b, e2, h2, h3⟩ := hs w (List.mem_cons_self ..)
    rw [List.map_cons, compL]
    cases b with
    | false =>
      have h3 : @WB false ⟨_, p w = false ∧ wipeE e2 vs = e⟩ := h3
      rw [WB_false] at h3
      simp only [h1, h2, h3.2, ih, List.filter_cons, h3.1, Bool.false_eq_true, if_false]
    | true =>
      have h3 : @WB true ⟨@W _ te e2 ⟨fun r e3 => @W _ (frz r.hold) e3 ⟨fun y e4 => p w = true ∧ y = f w ∧ wipeE e4 vs = e⟩⟩, _⟩ := h3
      rw [WB_true] at h3
      obtain ⟨r, e3, h4, y, e4, h5, h6, h7, h8⟩ := h3
      have h7 : y = f w := h7
      have h6 : p w = true := h6
      have h8 : wipeE e4 vs = e := h8
      simp only [h1, h2, h4, h5, h8, ih, List.filter_cons, h6, if_true, List.map_cons, h7]
/-- a comprehension without a test over things told by a -/
theorem W_comp_mapA {α : Type} (c : α → D) (f : α → D) {e : PD.Env} {vs : List Nat} {g : Vl → M Unit} {te : M Vl} {Q : List D → PD.Env → Prop} {ws : List α}
    (h : ∀ w, w ∈ ws → @W _ (g (.im (c w))) e ⟨fun _ e1 => @W _ te e1 ⟨fun r e3 => @W _ (frz r.hold) e3 ⟨fun y e4 => y = f w ∧ wipeE e4 vs = e⟩⟩⟩)
    (q : Q (ws.map f) e) : @W _ (compL vs g (rt true) te (ws.map c)) e ⟨Q⟩ := by
  refine W_comp_fltA c (fun _ => true) f (fun w hw => ?_) (by rw [List.filter_eq_self.mpr (fun _ _ => rfl)]; exact q)
  refine W_mono (h w hw) fun _ e1 h1 => ?_
  rw [W_rt, WB_true]
  refine W_mono h1 fun r e3 h2 => ?_
  exact W_mono h2 fun y e4 h3 => ⟨rfl, h3.1, h3.2⟩
theorem take_snoc {α : Type} {l : List α} {i : Nat} {a : α} (h : l[i]? = some a) : l.take (i + 1) = l.take i ++ [a] := by
  rw [List.take_add_one, h]
  rfl
theorem at_map {α β : Type} {c : α → β} {l : List α} {i : Nat} {d : β} (h : (l.map c)[i]? = some d) : ∃ a, l[i]? = some a ∧ a ∈ l ∧ d = c a := by
  rw [List.getElem?_map] at h
  obtain ⟨f, hf, rfl⟩ := Option.map_eq_some_iff.mp h
  exact ⟨f, hf, List.mem_of_getElem? hf, rfl⟩
theorem at_of {α : Type} {l : List α} {i : Nat} (h : i < l.length) : ∃ a, l[i]? = some a ∧ a ∈ l := ⟨l[i], List.getElem?_eq_getElem h, List.getElem_mem h⟩
theorem get_app_lt {α : Type} {l m : List α} {i : Nat} (h : i < l.length) : (l ++ m)[i]? = l[i]? := List.getElem?_append_left h
theorem snoc_get {α : Type} {l : List α} {a b : α} {i : Nat} (h : (l ++ [a])[i]? = some b) : (i < l.length ∧ l[i]? = some b) ∨ (i = l.length ∧ b = a) := getE_snoc h
theorem WO_atA {α : Type} (c : α → D) {l : List α} {i : Int} {K : D → Prop} (h0 : 0 ≤ i) (h1 : i < l.length) (q : ∀ (j : Nat) (a : α), i = j → l[j]? = some a → K (c a)) : @WO _ (L2.atI (l.map c) i) ⟨K⟩ :=
  WO_at h0 (by rw [List.length_map]; exact h1) fun j a hj ha => by
    obtain ⟨x, hx, _, rfl⟩ := at_map ha
    exact q j x hj hx
theorem atI_map {α : Type} (c : α → D) {l : List α} {j : Nat} {a : α} (h : l[j]? = some a) : L2.atI (l.map c) (j : Int) = some (c a) := at_nat (by rw [List.getElem?_map, h]; rfl)
/-! texts in lists -/
theorem flat_strs (xs : List Str) : (xs.map D.str).all flatD = true := List.all_eq_true.mpr fun d hd => by
  obtain ⟨x, _, rfl⟩ := List.mem_map.mp hd
  rfl
theorem strs_py (xs : List Str) : arePy (xs.map D.str) = true := by
  rw [arePy_all]
  exact List.all_eq_true.mpr fun d hd => by
    obtain ⟨x, _, rfl⟩ := List.mem_map.mp hd
    rfl
theorem strs_dep (xs : List Str) : PyData.depthAll (pys (xs.map D.str)) = 0 := by
  induction xs with
  | nil => rfl
  | cons x r ih => simp [pys, PyData.depthAll, D.py, PyData.depth, ih]
theorem any_strs (x : Str) (xs : List Str) : ((xs.map D.str).any fun z => eqB z (.str x)) = decide (x ∈ xs) := by
  induction xs with
  | nil => simp
  | cons y r ih =>
    rw [List.map_cons, List.any_cons, ih, eqB_str]
    by_cases h : y = x
    · simp [h]
    · have : ¬ x = y := fun z => h z.symm
      simp [h, this]
theorem inB_strs (x : Str) (xs : List Str) : inB [.str x, .lst (xs.map D.str)] = some (decide (x ∈ xs)) := by
  have e : ((D.str x).isPy && arePy (xs.map D.str) && depB 64 (.str x) && depsB 63 (xs.map D.str)) = true := by
    rw [strs_py]
    have h1 : depB 64 (.str x) = true := rfl
    have h2 : depsB 63 (xs.map D.str) = true := decide_eq_true (by rw [strs_dep]; decide)
    rw [h1, h2]
    rfl
  show (if ((D.str x).isPy && arePy (xs.map D.str) && depB 64 (.str x) && depsB 63 (xs.map D.str)) = true then some _ else none) = _
  rw [if_pos e, any_strs]
theorem inB_strsT (x : Str) (xs : List Str) : inB [.str x, .tup (xs.map D.str)] = some (decide (x ∈ xs)) := by
  show (if (flatD (.str x) && (xs.map D.str).all flatD) = true then some _ else none) = _
  rw [flat_strs, any_strs]
  rfl
theorem inD_strs (x : Str) (xs : List Str) : inD [.str x, .lst (xs.map D.str)] = some (.im (.bl (decide (x ∈ xs)))) := by
  rw [inD, inB_strs]
  rfl
theorem notIn_strs (x : Str) (xs : List Str) : notInD [.str x, .lst (xs.map D.str)] = some (.im (.bl (!decide (x ∈ xs)))) := by
  rw [notInD, inB_strs]
  rfl
theorem inD_strsT (x : Str) (xs : List Str) : inD [.str x, .tup (xs.map D.str)] = some (.im (.bl (decide (x ∈ xs)))) := by
  rw [inD, inB_strsT]
  rfl
theorem strs_has {n : Nat} {xs : List Str} (h : ∀ x ∈ xs, As n x) : ∀ d ∈ xs.map D.str, Has (.str n) d := fun d hd => by
  obtain ⟨x, hx, rfl⟩ := List.mem_map.mp hd
  exact Has.mkS (h x hx)
theorem cut_map {α β : Type} (f : α → β) (l : List α) (lo hi : Option Int) : cutD (l.map f) lo hi = (cutD l lo hi).map f := by
  unfold cutD
  rw [List.length_map, List.map_take, List.map_drop]
theorem cut_takeN {α : Type} (ds : List α) (i : Nat) : cutD ds none (some (i : Int)) = ds.take i := cut_take ds i
/-- sorted things that are told by a -/
theorem sortL_map {α : Type} (c : α → D) (l : List α) : ∃ m : List α, m.Perm l ∧ sortL (l.map c) = m.map c :=
  ⟨l.mergeSort fun a b => PySem.W.dataLe false D.py (c a) (c b), List.mergeSort_perm _ _, (List.map_mergeSort (f := c) (fun a _ b _ => rfl)).symm⟩
/-! ints in lists -/
theorem intsD_mapA {α : Type} (f : α → Int) (l : List α) : intsD (l.map fun a => D.int (f a)) = some (l.map f) := by
  induction l with
  | nil => rfl
  | cons a r ih =>
    show (intsD (r.map fun a => D.int (f a))).map _ = _
    rw [ih]
    rfl
theorem sumD_map {α : Type} (f : α → Int) (l : List α) : sumD [.lst (l.map fun a => D.int (f a))] = some (.im (.int (l.map f).sum)) := by
  show (intsD _).map _ = _
  rw [intsD_mapA]
  rfl
theorem allD_map {α : Type} (f : α → Bool) (l : List α) : allD [.lst (l.map fun a => D.bl (f a))] = some (.im (.bl (l.all f))) := by
  have e : blsD (l.map fun a => D.bl (f a)) = some (l.map f) := by
    induction l with
    | nil => rfl
    | cons a r ih =>
      show (blsD (r.map fun a => D.bl (f a))).map _ = _
      rw [ih]
      rfl
  show (blsD _).map _ = _
  rw [e]
  show some (Vl.im (.bl ((l.map f).all id))) = _
  rw [List.all_map]
  rfl
theorem anyD_map {α : Type} (f : α → Bool) (l : List α) : anyD [.lst (l.map fun a => D.bl (f a))] = some (.im (.bl (l.any f))) := by
  have e : blsD (l.map fun a => D.bl (f a)) = some (l.map f) := by
    induction l with
    | nil => rfl
    | cons a r ih =>
      show (blsD (r.map fun a => D.bl (f a))).map _ = _
      rw [ih]
      rfl
  show (blsD _).map _ = _
  rw [e]
  show some (Vl.im (.bl ((l.map f).any id))) = _
  rw [List.any_map]
  rfl
/-! the order of pairs -/
theorem le_first {a b : Int} {x y : Str} (h : PySem.W.dataLe false D.py (.tup [.int a, .str x]) (.tup [.int b, .str y]) = true) : a ≤ b := by
  have h : (!PySem.W.dataLt (.tuple [.int b, .str y]) (.tuple [.int a, .str x])) = true := h
  rw [PySem.W.dataLt_pair (by simp [PySem.W.alike]) (by simp [PySem.W.alike]), PySem.W.dataLt_int] at h
  simp only [PyData.eqv, beq_iff_eq] at h
  by_cases e : b = a
  · omega
  · rw [if_neg e] at h
    have : ¬ b < a := by simpa using h
    omega
/-! dicts from pairs with keys of their own -/
theorem mergeD_nd : ∀ {more es : List (Key × D)}, (es.map (·.1) ++ more.map (·.1)).Nodup → mergeD es more = es ++ more
  | [], es, _ => by simp [mergeD]
  | m :: more, es, h => by
    have h1 : ∀ e ∈ es, e.1 ≠ m.1 := fun e he z => by
      rw [List.map_cons, List.nodup_append] at h
      exact h.2.2 e.1 (List.mem_map.mpr ⟨e, he, rfl⟩) m.1 (List.mem_cons_self ..) z
    show mergeD (putD es m.1 m.2) more = _
    rw [putD_new h1, mergeD_nd]
    · simp
    · rw [List.map_append]
      simpa using h
theorem getK_map {α : Type} {l : List α} {k : α → Str} {v : α → D} (nd : (l.map k).Nodup) {a : α} (ha : a ∈ l) : getK (l.map fun a => ((.inr (k a) : Key), v a)) (.inr (k a)) = some (v a) := by
  induction l with
  | nil => simp at ha
  | cons b r ih =>
    rw [List.map_cons, List.nodup_cons] at nd
    unfold getK
    rw [List.map_cons]
    rcases List.mem_cons.mp ha with rfl | ha
    · rw [List.find?_cons_of_pos (by simp)]
      rfl
    · have : k b ≠ k a := fun z => nd.1 (by rw [z]; exact List.mem_map.mpr ⟨a, ha, rfl⟩)
      rw [List.find?_cons_of_neg (by simpa using this)]
      exact ih nd.2 ha
theorem pairsK_map {α : Type} (l : List α) (k : α → Str) (v : α → D) : pairsK (l.map fun a => .tup [.str (k a), v a]) = some (l.map fun a => (.inr (k a), v a)) := by
  induction l with
  | nil => rfl
  | cons a r ih =>
    show (match keyD (.str (k a)), pairsK (r.map fun a => .tup [.str (k a), v a]) with | some k, some es => some ((k, v a) :: es) | _, _ => none) = _
    rw [ih]
    rfl
theorem dictD_map {α : Type} {l : List α} {k : α → Str} {v : α → D} (nd : (l.map k).Nodup) : dictD [.lst (l.map fun a => .tup [.str (k a), v a])] = some (.fr (.dk (l.map fun a => (.inr (k a), v a)))) := by
  show (match pairsK (l.map fun a => D.tup [.str (k a), v a]) with | some es => some (Vl.fr (.dk (mergeD [] es))) | none => none) = _
  rw [pairsK_map]
  dsimp only
  rw [mergeD_nd]
  · rfl
  · rw [List.map_map]
    have : (l.map k).map (fun x => (Sum.inr x : Key)) = l.map ((·.1) ∘ fun a => ((.inr (k a) : Key), v a)) := by rw [List.map_map]; rfl
    rw [← this]
    exact List.Pairwise.map _ (fun a b h z => h (by simpa using z)) nd
theorem getK_none {κ : Type} [DecidableEq κ] {es : List (κ × D)} {k : κ} (h : ∀ e ∈ es, e.1 ≠ k) : getK es k = none := by
  unfold getK
  rw [List.find?_eq_none.mpr (fun e he => by simpa using h e he)]
  rfl
end PD
namespace PD
open PySem PySem.Spec PyProof.Rows L2
/-! ## the fields' data -/
theorem As.empty {n : Nat} : As n (Str.ofString "") := ⟨by show (Str.ofString "").length ≤ n; rw [show (Str.ofString "").length = 0 by decide +kernel]; omega, fun c hc => by
  have : (Str.ofString "").cps.toList = [] := by decide +kernel
  rw [this] at hc
  simp at hc⟩
abbrev noS : Str := Str.ofString ""
theorem noS_len {x : Str} (h : 1 ≤ x.length) : x ≠ noS := fun z => by
  rw [z, show noS.length = 0 by decide +kernel] at h
  omega
structure Fld where
  nm : Str
  ow : Str
  bl : Str
  dy : Int
  so : Int
def Fld.d (f : Fld) : D := .tup [.str f.nm, .str f.ow, .str f.bl, .int f.dy, .int f.so]
def Fld.ok (f : Fld) : Prop := (As 8 f.nm ∧ 1 ≤ f.nm.length) ∧ As 8 f.ow ∧ As 8 f.bl ∧ 1 ≤ f.dy ∧ f.dy ≤ 999 ∧ 0 ≤ f.so ∧ f.so ≤ 99
theorem Fld.ok.ne {f : Fld} (h : f.ok) : f.nm ≠ noS := noS_len h.1.2
structure Gt where
  nm : Str
  mo : Int
  ri : List Str
  al : List Str
def Gt.d (g : Gt) : D := .tup [.str g.nm, .int g.mo, .tup (g.ri.map D.str), .tup (g.al.map D.str)]
structure Gt.ok (fl : List Fld) (g : Gt) : Prop where
  nm : As 8 g.nm
  m0 : 1 ≤ g.mo
  m1 : g.mo ≤ 999
  r0 : 1 ≤ g.ri.length
  r1 : g.ri.length ≤ 12
  r2 : ∀ x ∈ g.ri, As 8 x
  a0 : 1 ≤ g.al.length
  a1 : g.al.length ≤ 9
  a2 : ∀ x ∈ g.al, As 8 x
  a3 : ∀ x ∈ g.al, ∃ f ∈ fl, f.nm = x
def terD (fl : List Fld) (gs : List Gt) : D := .tup [.tup (fl.map Fld.d), .tup (gs.map Gt.d)]
def FieldT : Ty := .tup [.str 8, .str 8, .str 8, .int 1 999, .int 0 99]
def GateT : Ty := .tup [.str 8, .int 1 999, .tv (.str 8) 12, .tv (.str 8) 9]
def TerT : Ty := .tup [.tv FieldT 8, .tv GateT 4]
theorem Fld.ok.has {f : Fld} (h : f.ok) : Has FieldT f.d := by
  obtain ⟨⟨h1, _⟩, h2, h3, h4, h5, h6, h7⟩ := h
  exact Has.mkT (.cons (Has.mkS h1) (.cons (Has.mkS h2) (.cons (Has.mkS h3) (.cons (Has.mkI h4 h5) (.cons (Has.mkI h6 h7) .nil)))))
theorem flds_has {fl : List Fld} (h : ∀ f ∈ fl, f.ok) : ∀ d ∈ fl.map Fld.d, Has FieldT d := fun d hd => by
  obtain ⟨f, hf, rfl⟩ := List.mem_map.mp hd
  exact (h f hf).has
theorem Gt.ok.has {fl : List Fld} {g : Gt} (h : g.ok fl) : Has GateT g.d :=
  Has.mkT (.cons (Has.mkS h.nm) (.cons (Has.mkI h.m0 h.m1) (.cons (Has.mkV (by rw [List.length_map]; exact h.r1) (strs_has h.r2)) (.cons (Has.mkV (by rw [List.length_map]; exact h.a1) (strs_has h.a2)) .nil))))
theorem gts_has {fl : List Fld} {gs : List Gt} (h : ∀ g ∈ gs, g.ok fl) : ∀ d ∈ gs.map Gt.d, Has GateT d := fun d hd => by
  obtain ⟨g, hg, rfl⟩ := List.mem_map.mp hd
  exact (h g hg).has
/-- below lies nothing, or a field that was made before the k-th -/
def Blw (fl : List Fld) (k : Nat) (x : Str) : Prop := x = noS ∨ ∃ j h, j < k ∧ fl[j]? = some h ∧ h.nm = x
def Cr (rs : List D) (fl : List Fld) : Prop := ∀ (k : Nat) (g : Fld), fl[k]? = some g → rs[k]? = some (.str g.nm) ∧ g.ok ∧ Blw fl k g.bl
theorem Blw.app {fl gl : List Fld} {k : Nat} {x : Str} (h : Blw fl k x) : Blw (fl ++ gl) k x := by
  rcases h with h | ⟨j, g, h1, h2, h3⟩
  · exact .inl h
  · exact .inr ⟨j, g, h1, by rw [List.getElem?_append_left (List.getElem?_eq_some_iff.mp h2).1]; exact h2, h3⟩
theorem Cr.snoc {rs : List D} {fl : List Fld} {i : Nat} {g : Fld} (hl : fl.length = i) (h : Cr rs fl) (h1 : rs[i]? = some (.str g.nm)) (h2 : g.ok) (h3 : Blw fl i g.bl) : Cr rs (fl ++ [g]) := by
  intro k e hk
  rcases snoc_get hk with ⟨hki, hk⟩ | ⟨hki, rfl⟩
  · obtain ⟨a, b, c⟩ := h k e hk
    exact ⟨a, b, c.app⟩
  · rw [show k = i by omega]
    exact ⟨h1, h2, h3.app⟩
/-! a terrace's fields -/
structure TerrOk (fl : List Fld) : Prop where
  nd : (fl.map Fld.nm).Nodup
  ok : ∀ f ∈ fl, f.ok
  dag : ∃ rk : Str → Nat, ∀ f ∈ fl, rk f.nm < fl.length ∧ (f.bl = noS ∨ ∃ g ∈ fl, g.nm = f.bl ∧ rk f.bl < rk f.nm)
theorem TerrOk.perm {fl gl : List Fld} (p : gl.Perm fl) (h : TerrOk fl) : TerrOk gl := by
  obtain ⟨rk, hr⟩ := h.dag
  refine ⟨(p.map _).nodup_iff.mpr h.nd, fun f hf => h.ok f (p.mem_iff.mp hf), rk, fun f hf => ?_⟩
  obtain ⟨a, b⟩ := hr f (p.mem_iff.mp hf)
  refine ⟨by rw [p.length_eq]; exact a, ?_⟩
  rcases b with b | ⟨g, b1, b2, b3⟩
  · exact .inl b
  · exact .inr ⟨g, p.mem_iff.mpr b1, b2, b3⟩
theorem TerrOk.eq {fl : List Fld} (h : TerrOk fl) {f g : Fld} (hf : f ∈ fl) (hg : g ∈ fl) (e : f.nm = g.nm) : f = g := by
  obtain ⟨i, hi⟩ := List.mem_iff_getElem?.mp hf
  obtain ⟨j, hj⟩ := List.mem_iff_getElem?.mp hg
  have h1 : (fl.map Fld.nm)[i]? = some f.nm := by rw [List.getElem?_map, hi]; rfl
  have h2 : (fl.map Fld.nm)[j]? = some g.nm := by rw [List.getElem?_map, hj]; rfl
  have : i = j := (List.getElem?_inj (List.getElem?_eq_some_iff.mp h1).1 h.nd).mp (by rw [h1, h2, e])
  rw [this, hj] at hi
  exact (Option.some.inj hi).symm
theorem TerrOk.ix {fl : List Fld} (h : TerrOk fl) {i j : Nat} {f g : Fld} (hi : fl[i]? = some f) (hj : fl[j]? = some g) (e : f.nm = g.nm) : i = j := by
  have h1 : (fl.map Fld.nm)[i]? = some f.nm := by rw [List.getElem?_map, hi]; rfl
  have h2 : (fl.map Fld.nm)[j]? = some g.nm := by rw [List.getElem?_map, hj]; rfl
  exact (List.getElem?_inj (List.getElem?_eq_some_iff.mp h1).1 h.nd).mp (by rw [h1, h2, e])
theorem Cr.terr {rs : List D} {fl : List Fld} (h : Cr rs fl) (hn : rs.Nodup) (hl : fl.length ≤ rs.length) : TerrOk fl := by
  have e : fl.map (fun f => D.str f.nm) = rs.take fl.length := by
    apply List.ext_getElem?
    intro k
    rw [List.getElem?_map, List.getElem?_take]
    cases hk : fl[k]? with
    | none =>
      have := List.getElem?_eq_none_iff.mp hk
      rw [if_neg (by omega)]
      rfl
    | some g =>
      have := (List.getElem?_eq_some_iff.mp hk).1
      rw [if_pos this, (h k g hk).1]
      rfl
  have nd : (fl.map Fld.nm).Nodup := by
    have hn := hn.sublist (List.take_sublist fl.length rs)
    rw [← e] at hn
    have e2 : fl.map (fun f => D.str f.nm) = (fl.map Fld.nm).map D.str := by rw [List.map_map]; rfl
    rw [e2] at hn
    exact List.Pairwise.of_map D.str (fun a b h z => h (by rw [z])) hn
  have ix : ∀ (k : Nat) (g : Fld), fl[k]? = some g → (fl.map Fld.nm).idxOf g.nm = k := by
    intro k g hk
    have h1 : (fl.map Fld.nm)[k]? = some g.nm := by rw [List.getElem?_map, hk]; rfl
    have hk' := (List.getElem?_eq_some_iff.mp h1)
    obtain ⟨hlt, e1⟩ := hk'
    have := nd.idxOf_getElem k hlt
    rw [e1] at this
    exact this
  refine ⟨nd, fun f hf => ?_, fun x => (fl.map Fld.nm).idxOf x, fun f hf => ?_⟩
  · obtain ⟨k, hk⟩ := List.mem_iff_getElem?.mp hf
    exact (h k f hk).2.1
  · obtain ⟨k, hk⟩ := List.mem_iff_getElem?.mp hf
    have hkl := (List.getElem?_eq_some_iff.mp hk).1
    refine ⟨by show (fl.map Fld.nm).idxOf f.nm < _; rw [ix k f hk]; exact hkl, ?_⟩
    rcases (h k f hk).2.2 with b | ⟨j, g, b1, b2, b3⟩
    · exact .inl b
    · refine .inr ⟨g, List.mem_of_getElem? b2, b3, ?_⟩
      show (fl.map Fld.nm).idxOf f.bl < (fl.map Fld.nm).idxOf f.nm
      rw [ix k f hk, ← b3, ix j g b2]
      exact b1
/-! ### what lies below -/
def chain (fl : List Fld) : Nat → Str → List Str
  | 0, _ => []
  | n + 1, x => match fl.find? (fun f => decide (f.nm = x)) with
    | some f => if f.bl = noS then [] else f.bl :: chain fl n f.bl
    | none => []
theorem find_nm {fl : List Fld} (h : TerrOk fl) {f : Fld} (hf : f ∈ fl) : fl.find? (fun g => decide (g.nm = f.nm)) = some f := by
  cases e : fl.find? (fun g => decide (g.nm = f.nm)) with
  | none => exact absurd (List.find?_eq_none.mp e f hf) (by simp)
  | some g =>
    have h1 := List.mem_of_find?_eq_some e
    have h2 : g.nm = f.nm := by simpa using List.find?_some e
    rw [h.eq h1 hf h2]
theorem chain_at {fl : List Fld} (h : TerrOk fl) {f : Fld} (hf : f ∈ fl) (n : Nat) : chain fl (n + 1) f.nm = if f.bl = noS then [] else f.bl :: chain fl n f.bl := by
  show (match fl.find? (fun g => decide (g.nm = f.nm)) with | some f => if f.bl = noS then [] else f.bl :: chain fl n f.bl | none => []) = _
  rw [find_nm h hf]
theorem chain_stable {fl : List Fld} (h : TerrOk fl) {rk : Str → Nat} (hr : ∀ f ∈ fl, rk f.nm < fl.length ∧ (f.bl = noS ∨ ∃ g ∈ fl, g.nm = f.bl ∧ rk f.bl < rk f.nm)) : ∀ (n m : Nat) (f : Fld), f ∈ fl → rk f.nm < n → rk f.nm < m → chain fl n f.nm = chain fl m f.nm
  | 0, _, _, _, h1, _ => by omega
  | _, 0, _, _, _, h2 => by omega
  | n + 1, m + 1, f, hf, h1, h2 => by
    rw [chain_at h hf, chain_at h hf]
    rcases (hr f hf).2 with b | ⟨g, hg, e, b⟩
    · rw [if_pos b, if_pos b]
    · rw [← e] at b ⊢
      rw [chain_stable h hr n m g hg (by omega) (by omega)]
/-- the fields below f, one behind the other -/
def blw (fl : List Fld) (f : Fld) : List Str := chain fl fl.length f.nm
theorem blw_eq {fl : List Fld} (h : TerrOk fl) {f : Fld} (hf : f ∈ fl) : (f.bl = noS ∧ blw fl f = []) ∨ ∃ g ∈ fl, g.nm = f.bl ∧ f.bl ≠ noS ∧ blw fl f = g.nm :: blw fl g := by
  obtain ⟨rk, hr⟩ := h.dag
  have hl : fl.length = (fl.length - 1) + 1 := by
    have := List.length_pos_of_mem hf
    omega
  by_cases hb : f.bl = noS
  · refine .inl ⟨hb, ?_⟩
    unfold blw
    rw [hl, chain_at h hf, if_pos hb]
  · rcases (hr f hf).2 with b | ⟨g, hg, e, b⟩
    · exact absurd b hb
    · refine .inr ⟨g, hg, e, hb, ?_⟩
      have r1 := (hr f hf).1
      have h1 : blw fl f = f.bl :: chain fl (fl.length - 1) f.bl := by
        unfold blw
        rw [hl, chain_at h hf, if_neg hb]
        rfl
      rw [h1, ← e, chain_stable h hr _ fl.length g hg (by rw [e]; omega) (by rw [e]; omega)]
      rfl
theorem blw_mem {fl : List Fld} (h : TerrOk fl) : ∀ (n : Nat) (f : Fld), f ∈ fl → (blw fl f).length = n → ∀ x ∈ blw fl f, ∃ g ∈ fl, g.nm = x
  | 0, f, hf, hl, x, hx => by
    rw [List.length_eq_zero_iff.mp hl] at hx
    simp at hx
  | n + 1, f, hf, hl, x, hx => by
    rcases blw_eq h hf with ⟨_, e⟩ | ⟨g, hg, e1, e2, e3⟩
    · rw [e] at hx
      simp at hx
    · rw [e3] at hx hl
      rcases List.mem_cons.mp hx with e | hx
      · exact ⟨g, hg, e.symm⟩
      · exact blw_mem h n g hg (by simpa using hl) x hx
theorem blw_len {fl : List Fld} (h : TerrOk fl) {f : Fld} (hf : f ∈ fl) : (blw fl f).length < fl.length := by
  obtain ⟨rk, hr⟩ := h.dag
  have : ∀ (n : Nat) (f : Fld), f ∈ fl → rk f.nm = n → (blw fl f).length ≤ n := by
    intro n
    induction n using Nat.strongRecOn with
    | ind n ih =>
      intro f hf hn
      rcases blw_eq h hf with ⟨_, e⟩ | ⟨g, hg, e1, e2, e3⟩
      · rw [e]
        exact Nat.zero_le _
      · rcases (hr f hf).2 with b | ⟨g', hg', e', b⟩
        · exact absurd b e2
        · rw [h.eq hg' hg (by rw [e', e1]), ] at e'
          have := ih (rk g.nm) (by rw [e1]; omega) g hg rfl
          rw [e3, List.length_cons]
          rw [e1] at this
          omega
  have := this _ f hf rfl
  have := (hr f hf).1
  omega
/-! ### a day's doings -/
abbrev Bk := List (Str × Int)
def bD (p : Str × Int) : D := .tup [.str p.1, .int p.2]
def lkB (bl : Bk) (f : Str) : Option Int := (bl.find? fun p => decide (p.1 = f)).map (·.2)
structure Lt where
  g : Str
  f : Str
  m : Int
def Lt.d (l : Lt) : D := .tup [.str l.g, .str l.f, .int l.m]
structure Dn where
  ra : Int
  su : Int
  ls : List Lt
  bs : Bk
def Dn.d (n : Dn) : D := .tup [.int n.ra, .int n.su, .tup (n.ls.map Lt.d), .tp (n.bs.map bD)]
structure Dn.ok (n : Dn) : Prop where
  r0 : 0 ≤ n.ra
  r1 : n.ra ≤ 99
  s0 : 0 ≤ n.su
  s1 : n.su ≤ 99
  ll : n.ls.length ≤ 40
  l0 : ∀ l ∈ n.ls, As 8 l.g ∧ As 8 l.f ∧ 0 ≤ l.m ∧ l.m ≤ 99999
  bl : n.bs.length ≤ 8
  b0 : (n.bs.map (·.1)).Nodup
  b1 : ∀ b ∈ n.bs, As 8 b.1 ∧ 0 ≤ b.2 ∧ b.2 ≤ 998
def LtT : Ty := .tup [.str 8, .str 8, .int 0 99999]
def BkT : Ty := .tup [.str 8, .int 0 998]
def DnT : Ty := .tup [.int 0 99, .int 0 99, .tv LtT 40, .bt BkT 8]
theorem Dn.ok.lhas {n : Dn} (h : n.ok) : ∀ d ∈ n.ls.map Lt.d, Has LtT d := fun d hd => by
  obtain ⟨l, hl, rfl⟩ := List.mem_map.mp hd
  obtain ⟨a, b, c, e⟩ := h.l0 l hl
  exact Has.mkT (.cons (Has.mkS a) (.cons (Has.mkS b) (.cons (Has.mkI c e) .nil)))
theorem Dn.ok.bhas {n : Dn} (h : n.ok) : ∀ d ∈ n.bs.map bD, Has BkT d := fun d hd => by
  obtain ⟨l, hl, rfl⟩ := List.mem_map.mp hd
  obtain ⟨a, b, c⟩ := h.b1 l hl
  exact Has.mkT (.cons (Has.mkS a) (.cons (Has.mkI b c) .nil))
theorem Dn.ok.has {n : Dn} (h : n.ok) : Has DnT n.d :=
  Has.mkT (.cons (Has.mkI h.r0 h.r1) (.cons (Has.mkI h.s0 h.s1) (.cons (Has.mkV (by rw [List.length_map]; exact h.ll) h.lhas) (.cons (Has.mkB (by rw [List.length_map]; exact h.bl) h.bhas) .nil))))
theorem lk_mem {bl : Bk} (h : (bl.map (·.1)).Nodup) {f : Str} {o : Int} : lkB bl f = some o ↔ (f, o) ∈ bl := by
  unfold lkB
  induction bl with
  | nil => simp
  | cons p bl ih =>
    rw [List.map_cons, List.nodup_cons] at h
    by_cases hp : p.1 = f
    · rw [List.find?_cons_of_pos (by simp [hp])]
      constructor
      · intro e
        have e : p.2 = o := by simpa using e
        rw [← hp, ← e]
        exact List.mem_cons_self ..
      · intro hm
        rcases List.mem_cons.mp hm with e | hm
        · rw [← e]; rfl
        · exact absurd (List.mem_map.mpr ⟨_, hm, rfl⟩) (by rw [← hp] at *; exact h.1)
    · rw [List.find?_cons_of_neg (by simp [hp]), ih h.2]
      constructor
      · exact List.mem_cons_of_mem _
      · intro hm
        rcases List.mem_cons.mp hm with e | hm
        · rw [← e] at hp
          exact absurd rfl hp
        · exact hm
/-! ### a field's day -/
structure Rw where
  ra : Int
  le : Int
  ca : Int
  rn : Int
  so : Int
  dr : Int
  st : Int
def Rw.d (r : Rw) : D := .tup [.int r.ra, .int r.le, .int r.ca, .int r.rn, .int r.so, .int r.dr, .int r.st]
def mn (a b : Int) : Int := if b < a then b else a
def Dn.into (n : Dn) (x : Str) : Int := ((n.ls.filter fun l => decide (l.f = x)).map Lt.m).sum
def Dn.lvl (n : Dn) (f : Fld) : Int := (lkB n.bs f.nm).getD f.dy
/-- what is full, held, soaks, is drunk -/
def rowOf (f : Fld) (w : Int) (n : Dn) (ca : Int) : Rw :=
  let full := w + n.ra + n.into f.nm + ca
  let left := mn full (n.lvl f)
  let soaked := mn left f.so
  let drunk := mn (left - soaked) n.su
  ⟨n.ra, n.into f.nm, ca, full - left, soaked, drunk, left - soaked - drunk⟩
/-- what comes from those above x -/
def cameOf : List Fld → List Rw → Str → Int
  | f :: fl, r :: rs, x => (if f.bl = x then r.rn else 0) + cameOf fl rs x
  | _, _, _ => 0
/-- the rows of a day -/
structure Sol (fl : List Fld) (st : List Int) (n : Dn) (rs : List Rw) : Prop where
  len : rs.length = fl.length
  row : ∀ (i : Nat) (f : Fld) (w : Int) (r : Rw), fl[i]? = some f → st[i]? = some w → rs[i]? = some r → r = rowOf f w n (cameOf fl rs f.nm)
theorem cameOf_rel {x : Str} : ∀ {fl : List Fld} {a b : List Rw}, a.length = fl.length → b.length = fl.length → (∀ (i : Nat) (f : Fld) (r s : Rw), fl[i]? = some f → a[i]? = some r → b[i]? = some s → f.bl = x → r.rn ≤ s.rn) → cameOf fl a x ≤ cameOf fl b x
  | [], [], [], _, _, _ => Int.le_refl _
  | f :: fl, r :: a, s :: b, h1, h2, h => by
    have ih := cameOf_rel (x := x) (fl := fl) (a := a) (b := b) (by simpa using h1) (by simpa using h2) fun i f r s e1 e2 e3 => h (i + 1) f r s (by simpa using e1) (by simpa using e2) (by simpa using e3)
    have h0 := h 0 f r s rfl rfl rfl
    unfold cameOf
    by_cases e : f.bl = x
    · rw [if_pos e, if_pos e]
      have := h0 e
      omega
    · rw [if_neg e, if_neg e]
      omega
  | [], _ :: _, _, h, _, _ => by simp at h
  | [], [], _ :: _, _, h, _ => by simp at h
  | _ :: _, [], _, h, _, _ => by simp at h
  | _ :: _, _ :: _, [], _, h, _ => by simp at h
theorem cameOf_congr {x : Str} {fl : List Fld} {a b : List Rw} (h1 : a.length = fl.length) (h2 : b.length = fl.length) (h : ∀ (i : Nat) (f : Fld) (r s : Rw), fl[i]? = some f → a[i]? = some r → b[i]? = some s → f.bl = x → r.rn = s.rn) : cameOf fl a x = cameOf fl b x :=
  Int.le_antisymm (cameOf_rel h1 h2 fun i f r s e1 e2 e3 e4 => Int.le_of_eq (h i f r s e1 e2 e3 e4)) (cameOf_rel h2 h1 fun i f r s e1 e2 e3 e4 => Int.le_of_eq (h i f s r e1 e3 e2 e4).symm)
theorem cameOf_nn {x : Str} : ∀ {fl : List Fld} {a : List Rw}, (∀ r ∈ a, 0 ≤ r.rn) → 0 ≤ cameOf fl a x
  | f :: fl, r :: a, h => by
    have ih := cameOf_nn (x := x) (fl := fl) (a := a) fun r hr => h r (List.mem_cons_of_mem _ hr)
    have h0 := h r (List.mem_cons_self ..)
    unfold cameOf
    split <;> omega
  | [], _, _ => Int.le_refl _
  | _ :: _, [], _ => Int.le_refl _
/-- from the top downwards: what holds of those above x holds of x -/
theorem down_ind {fl : List Fld} (h : TerrOk fl) {P : Nat → Prop} (hs : ∀ (i : Nat) (f : Fld), fl[i]? = some f → (∀ (j : Nat) (g : Fld), fl[j]? = some g → g.bl = f.nm → P j) → P i) : ∀ i, i < fl.length → P i := by
  obtain ⟨rk, hr⟩ := h.dag
  have key : ∀ (n i : Nat) (f : Fld), fl[i]? = some f → fl.length - rk f.nm ≤ n → P i := by
    intro n
    induction n with
    | zero =>
      intro i f hi hn
      have := (hr f (List.mem_of_getElem? hi)).1
      omega
    | succ n ih =>
      intro i f hi hn
      refine hs i f hi fun j g hj hg => ih j g hj ?_
      have hgm := List.mem_of_getElem? hj
      have hfm := List.mem_of_getElem? hi
      rcases (hr g hgm).2 with b | ⟨_, _, _, b⟩
      · exact absurd (hg.symm.trans b) (h.ok f hfm).ne
      · rw [hg] at b
        have := (hr g hgm).1
        omega
  intro i hi
  exact key _ i _ (List.getElem?_eq_getElem hi) (Nat.le_refl _)
theorem Sol.uniq {fl : List Fld} (h : TerrOk fl) {st : List Int} (hst : st.length = fl.length) {n : Dn} {a b : List Rw} (ha : Sol fl st n a) (hb : Sol fl st n b) : a = b := by
  have key := down_ind h (P := fun i => a[i]? = b[i]?) fun i f hi hs => by
    have hl := (List.getElem?_eq_some_iff.mp hi).1
    obtain ⟨ra, ea, _⟩ := at_of (l := a) (i := i) (by rw [ha.len]; exact hl)
    obtain ⟨rb, eb, _⟩ := at_of (l := b) (i := i) (by rw [hb.len]; exact hl)
    obtain ⟨w, ew, _⟩ := at_of (l := st) (i := i) (by rw [hst]; exact hl)
    rw [ea, eb, ha.row i f _ _ hi ew ea, hb.row i f _ _ hi ew eb]
    rw [cameOf_congr ha.len hb.len fun j g r s h1 h2 h3 h4 => by
      have := hs j g h1 h4
      rw [h2, h3] at this
      rw [Option.some.inj this]]
  apply List.ext_getElem?
  intro i
  by_cases hi : i < fl.length
  · exact key i hi
  · rw [List.getElem?_eq_none (by rw [ha.len]; omega), List.getElem?_eq_none (by rw [hb.len]; omega)]
end PD
namespace PD
open PySem PySem.Spec PyProof.Rows L2
/-! ### the rows of a day, by turns -/
def zeroR : Rw := ⟨0, 0, 0, 0, 0, 0, 0⟩
def dayN (fl : List Fld) (st : List Int) (n : Dn) : Nat → List Rw
  | 0 => List.zipWith (fun _ _ => zeroR) fl st
  | k + 1 => List.zipWith (fun f w => rowOf f w n (cameOf fl (dayN fl st n k) f.nm)) fl st
def dayR (fl : List Fld) (st : List Int) (n : Dn) : List Rw := dayN fl st n fl.length
section
variable {fl : List Fld} {st : List Int} {n : Dn}
theorem dayN_len (hst : st.length = fl.length) : ∀ k, (dayN fl st n k).length = fl.length
  | 0 => by rw [dayN, List.length_zipWith]; omega
  | k + 1 => by rw [dayN, List.length_zipWith]; omega
theorem dayN_at {k i : Nat} {f : Fld} {w : Int} (hf : fl[i]? = some f) (hw : st[i]? = some w) : (dayN fl st n (k + 1))[i]? = some (rowOf f w n (cameOf fl (dayN fl st n k) f.nm)) := by
  rw [dayN, List.getElem?_zipWith, hf, hw]
theorem dayN_stable (h : TerrOk fl) (hst : st.length = fl.length) {rk : Str → Nat} (hr : ∀ f ∈ fl, rk f.nm < fl.length ∧ (f.bl = noS ∨ ∃ g ∈ fl, g.nm = f.bl ∧ rk f.bl < rk f.nm)) : ∀ (k i : Nat) (f : Fld), fl[i]? = some f → fl.length - rk f.nm ≤ k → ∀ m, k ≤ m → (dayN fl st n m)[i]? = (dayN fl st n k)[i]?
  | 0, i, f, hf, hk, m, hm => by
    have := (hr f (List.mem_of_getElem? hf)).1
    omega
  | k + 1, i, f, hf, hk, m, hm => by
    obtain ⟨m', rfl⟩ : ∃ m', m = m' + 1 := ⟨m - 1, by omega⟩
    obtain ⟨w, hw, _⟩ := at_of (l := st) (i := i) (by rw [hst]; exact (List.getElem?_eq_some_iff.mp hf).1)
    rw [dayN_at hf hw, dayN_at hf hw]
    rw [cameOf_congr (dayN_len hst m') (dayN_len hst k) fun j g r s h1 h2 h3 h4 => ?_]
    have hgm := List.mem_of_getElem? h1
    have hfm := List.mem_of_getElem? hf
    rcases (hr g hgm).2 with b | ⟨_, _, _, b⟩
    · exact absurd (h4.symm.trans b) (h.ok f hfm).ne
    · rw [h4] at b
      have := (hr g hgm).1
      have := dayN_stable h hst hr k j g h1 (by omega) m' (by omega)
      rw [h2, h3] at this
      rw [Option.some.inj this]
theorem dayR_sol (h : TerrOk fl) (hst : st.length = fl.length) : Sol fl st n (dayR fl st n) := by
  obtain ⟨rk, hr⟩ := h.dag
  have e : dayN fl st n (fl.length + 1) = dayR fl st n := by
    apply List.ext_getElem?
    intro i
    by_cases hi : i < fl.length
    · obtain ⟨f, hf, _⟩ := at_of hi
      exact dayN_stable h hst hr fl.length i f hf (by omega) _ (by omega)
    · rw [List.getElem?_eq_none (by rw [dayN_len hst]; omega), List.getElem?_eq_none (by rw [dayR, dayN_len hst]; omega)]
  refine ⟨dayN_len hst _, fun i f w r hf hw hr' => ?_⟩
  have := dayN_at (n := n) (k := fl.length) hf hw
  rw [e, hr'] at this
  exact Option.some.inj this
theorem dayR_len (hst : st.length = fl.length) : (dayR fl st n).length = fl.length := dayN_len hst _
theorem Sol.eq (h : TerrOk fl) (hst : st.length = fl.length) {rs : List Rw} (hs : Sol fl st n rs) : rs = dayR fl st n := hs.uniq h hst (dayR_sol h hst)
end
/-! ### fields, stands and rows side by side -/
abbrev T3 := Fld × Int × Rw
theorem side3 : ∀ {fl : List Fld} {st : List Int} {rs : List Rw}, st.length = fl.length → rs.length = fl.length → ∃ ts : List T3, ts.map (·.1) = fl ∧ ts.map (·.2.1) = st ∧ ts.map (·.2.2) = rs
  | [], [], [], _, _ => ⟨[], rfl, rfl, rfl⟩
  | f :: fl, w :: st, r :: rs, h1, h2 => by
    obtain ⟨ts, e1, e2, e3⟩ := side3 (fl := fl) (st := st) (rs := rs) (by simpa using h1) (by simpa using h2)
    exact ⟨(f, w, r) :: ts, by rw [List.map_cons, e1], by rw [List.map_cons, e2], by rw [List.map_cons, e3]⟩
  | [], _ :: _, _, h, _ => by simp at h
  | [], [], _ :: _, _, h => by simp at h
  | _ :: _, [], _, h, _ => by simp at h
  | _ :: _, _ :: _, [], _, h => by simp at h
def camT (x : Str) (t : T3) : Int := if t.1.bl = x then t.2.2.rn else 0
theorem cameOf_side (x : Str) : ∀ ts : List T3, cameOf (ts.map (·.1)) (ts.map (·.2.2)) x = (ts.map (camT x)).sum
  | [] => rfl
  | t :: ts => by
    rw [List.map_cons, List.map_cons, List.map_cons, List.sum_cons, cameOf, cameOf_side x ts]
    rfl
/-- in the order of going down -/
structure OrdT (ts os : List T3) : Prop where
  perm : os.Perm ts
  down : ∀ (i j : Nat) (t u : T3), os[i]? = some t → os[j]? = some u → u.1.bl = t.1.nm → j < i
theorem sum_perm {l m : List Int} (p : l.Perm m) : l.sum = m.sum := by
  induction p with
  | nil => rfl
  | cons x _ ih => rw [List.sum_cons, List.sum_cons, ih]
  | swap x y l => simp only [List.sum_cons]; omega
  | trans _ _ h1 h2 => rw [h1, h2]
theorem sum_zero : ∀ {l : List Int}, (∀ x ∈ l, x = 0) → l.sum = 0
  | [], _ => rfl
  | x :: l, h => by rw [List.sum_cons, h x (List.mem_cons_self ..), sum_zero fun y hy => h y (List.mem_cons_of_mem _ hy)]; rfl
theorem sum_app' (l m : List Int) : (l ++ m).sum = l.sum + m.sum := by
  induction l with
  | nil => simp
  | cons x l ih => rw [List.cons_append, List.sum_cons, List.sum_cons, ih]; omega
theorem OrdT.came {ts os : List T3} (o : OrdT ts os) {i : Nat} {t : T3} (ht : os[i]? = some t) : ((os.take i).map (camT t.1.nm)).sum = cameOf (ts.map (·.1)) (ts.map (·.2.2)) t.1.nm := by
  rw [cameOf_side, ← sum_perm (o.perm.map _)]
  conv => rhs; rw [← List.take_append_drop i os]
  rw [List.map_append, sum_app']
  have : ((os.drop i).map (camT t.1.nm)).sum = 0 := sum_zero fun x hx => by
    obtain ⟨u, hu, rfl⟩ := List.mem_map.mp hx
    obtain ⟨j, hj⟩ := List.mem_iff_getElem?.mp hu
    rw [List.getElem?_drop] at hj
    unfold camT
    rw [if_neg fun e => by
      have := o.down i (i + j) t u ht hj e
      omega]
  omega
/-! ### a day's dicts -/
theorem getK_bs (bs : Bk) (x : Str) : getK (bs.map fun b => ((.inr b.1 : Key), D.int b.2)) (.inr x) = (lkB bs x).map D.int := by
  induction bs with
  | nil => rfl
  | cons b bs ih =>
    unfold getK lkB at *
    rw [List.map_cons]
    by_cases h : b.1 = x
    · rw [List.find?_cons_of_pos (by simp [h]), List.find?_cons_of_pos (by simp [h])]
      rfl
    · rw [List.find?_cons_of_neg (by simpa using h), List.find?_cons_of_neg (by simpa using h)]
      exact ih
theorem nd_keys {α : Type} {l : List α} {k : α → Str} (nd : (l.map k).Nodup) (v : α → D) : (([] : List (Key × D)).map (·.1) ++ (l.map fun a => ((.inr (k a) : Key), v a)).map (·.1)).Nodup := by
  rw [List.map_nil, List.nil_append, List.map_map]
  have : (l.map k).map (fun x => (Sum.inr x : Key)) = l.map ((·.1) ∘ fun a => ((.inr (k a) : Key), v a)) := by rw [List.map_map]; rfl
  rw [← this]
  exact List.Pairwise.map _ (fun a b h z => h (by simpa using z)) nd
theorem dictB_bs {bs : Bk} (h : (bs.map (·.1)).Nodup) : dictBD [.tp (bs.map bD)] = some (.fr (.dk (bs.map fun b => (.inr b.1, .int b.2)))) := by
  show (match pairsK (bs.map fun b => D.tup [.str b.1, .int b.2]) with | some es => some (Vl.fr (.dk (mergeD [] es))) | none => none) = _
  rw [pairsK_map]
  dsimp only
  rw [mergeD_nd (nd_keys h _)]
  rfl
theorem keysD_map {α : Type} (l : List α) (k : α → Str) : keysD (l.map fun a => D.str (k a)) = some (l.map fun a => .inr (k a)) := by
  induction l with
  | nil => rfl
  | cons a r ih =>
    show (match keyD (.str (k a)), keysD (r.map fun a => D.str (k a)) with | some k, some ks => some (k :: ks) | _, _ => none) = _
    rw [ih]
    rfl
theorem dictZip_map {α : Type} {l : List α} {k : α → Str} {v : α → D} (nd : (l.map k).Nodup) : dictZipD [.lst (l.map fun a => .str (k a)), .tup (l.map v)] = some (.fr (.dk (l.map fun a => (.inr (k a), v a)))) := by
  show (match keysD (l.map fun a => D.str (k a)) with | some ks => some (Vl.fr (.dk (mergeD [] (ks.zip (l.map v))))) | none => none) = _
  rw [keysD_map]
  dsimp only
  have : (l.map fun a => (.inr (k a) : Key)).zip (l.map v) = l.map fun a => (.inr (k a), v a) := by
    induction l with
    | nil => rfl
    | cons a r ih =>
      rw [List.map_cons] at nd
      rw [List.map_cons, List.map_cons, List.map_cons, List.zip_cons_cons, ih (List.nodup_cons.mp nd).2]
  rw [this, mergeD_nd (nd_keys nd _)]
  rfl
/-! ### parts, folded -/
theorem Fld_i0 (x : Fld) : ixD [Fld.d x, .int 0] = some (.im (.str x.nm)) := by
  show (L2.atI [.str x.nm, .str x.ow, .str x.bl, .int x.dy, .int x.so] 0).map Vl.im = _
  rw [at0]
  rfl
theorem Fld_i1 (x : Fld) : ixD [Fld.d x, .int 1] = some (.im (.str x.ow)) := by
  show (L2.atI [.str x.nm, .str x.ow, .str x.bl, .int x.dy, .int x.so] 1).map Vl.im = _
  rw [at1]
  rfl
theorem Fld_i2 (x : Fld) : ixD [Fld.d x, .int 2] = some (.im (.str x.bl)) := by
  show (L2.atI [.str x.nm, .str x.ow, .str x.bl, .int x.dy, .int x.so] 2).map Vl.im = _
  rw [at2]
  rfl
theorem Fld_i3 (x : Fld) : ixD [Fld.d x, .int 3] = some (.im (.int x.dy)) := by
  show (L2.atI [.str x.nm, .str x.ow, .str x.bl, .int x.dy, .int x.so] 3).map Vl.im = _
  rw [at3]
  rfl
theorem Fld_i4 (x : Fld) : ixD [Fld.d x, .int 4] = some (.im (.int x.so)) := by
  show (L2.atI [.str x.nm, .str x.ow, .str x.bl, .int x.dy, .int x.so] 4).map Vl.im = _
  rw [at4]
  rfl
theorem W_gT_Fld {e : Env} {x : Fld} {gs : List D → M Unit} {Q : Unit → Env → Prop} : @W _ (gT 5 gs (.im (Fld.d x))) e ⟨Q⟩ = @W _ (gs [.str x.nm, .str x.ow, .str x.bl, .int x.dy, .int x.so]) e ⟨Q⟩ := by
  show @W _ (gT 5 gs (.im (.tup [.str x.nm, .str x.ow, .str x.bl, .int x.dy, .int x.so]))) e ⟨Q⟩ = _
  rw [W_gT, show decide (([.str x.nm, .str x.ow, .str x.bl, .int x.dy, .int x.so] : List D).length = 5) = true from rfl, WC_true]
theorem Gt_i0 (x : Gt) : ixD [Gt.d x, .int 0] = some (.im (.str x.nm)) := by
  show (L2.atI [.str x.nm, .int x.mo, .tup (x.ri.map D.str), .tup (x.al.map D.str)] 0).map Vl.im = _
  rw [at0]
  rfl
theorem Gt_i1 (x : Gt) : ixD [Gt.d x, .int 1] = some (.im (.int x.mo)) := by
  show (L2.atI [.str x.nm, .int x.mo, .tup (x.ri.map D.str), .tup (x.al.map D.str)] 1).map Vl.im = _
  rw [at1]
  rfl
theorem Gt_i2 (x : Gt) : ixD [Gt.d x, .int 2] = some (.im (.tup (x.ri.map D.str))) := by
  show (L2.atI [.str x.nm, .int x.mo, .tup (x.ri.map D.str), .tup (x.al.map D.str)] 2).map Vl.im = _
  rw [at2]
  rfl
theorem Gt_i3 (x : Gt) : ixD [Gt.d x, .int 3] = some (.im (.tup (x.al.map D.str))) := by
  show (L2.atI [.str x.nm, .int x.mo, .tup (x.ri.map D.str), .tup (x.al.map D.str)] 3).map Vl.im = _
  rw [at3]
  rfl
theorem W_gT_Gt {e : Env} {x : Gt} {gs : List D → M Unit} {Q : Unit → Env → Prop} : @W _ (gT 4 gs (.im (Gt.d x))) e ⟨Q⟩ = @W _ (gs [.str x.nm, .int x.mo, .tup (x.ri.map D.str), .tup (x.al.map D.str)]) e ⟨Q⟩ := by
  show @W _ (gT 4 gs (.im (.tup [.str x.nm, .int x.mo, .tup (x.ri.map D.str), .tup (x.al.map D.str)]))) e ⟨Q⟩ = _
  rw [W_gT, show decide (([.str x.nm, .int x.mo, .tup (x.ri.map D.str), .tup (x.al.map D.str)] : List D).length = 4) = true from rfl, WC_true]
theorem Lt_i0 (x : Lt) : ixD [Lt.d x, .int 0] = some (.im (.str x.g)) := by
  show (L2.atI [.str x.g, .str x.f, .int x.m] 0).map Vl.im = _
  rw [at0]
  rfl
theorem Lt_i1 (x : Lt) : ixD [Lt.d x, .int 1] = some (.im (.str x.f)) := by
  show (L2.atI [.str x.g, .str x.f, .int x.m] 1).map Vl.im = _
  rw [at1]
  rfl
theorem Lt_i2 (x : Lt) : ixD [Lt.d x, .int 2] = some (.im (.int x.m)) := by
  show (L2.atI [.str x.g, .str x.f, .int x.m] 2).map Vl.im = _
  rw [at2]
  rfl
theorem W_gT_Lt {e : Env} {x : Lt} {gs : List D → M Unit} {Q : Unit → Env → Prop} : @W _ (gT 3 gs (.im (Lt.d x))) e ⟨Q⟩ = @W _ (gs [.str x.g, .str x.f, .int x.m]) e ⟨Q⟩ := by
  show @W _ (gT 3 gs (.im (.tup [.str x.g, .str x.f, .int x.m]))) e ⟨Q⟩ = _
  rw [W_gT, show decide (([.str x.g, .str x.f, .int x.m] : List D).length = 3) = true from rfl, WC_true]
theorem bD_i0 (x : Str × Int) : ixD [bD x, .int 0] = some (.im (.str x.1)) := by
  show (L2.atI [.str x.1, .int x.2] 0).map Vl.im = _
  rw [at0]
  rfl
theorem bD_i1 (x : Str × Int) : ixD [bD x, .int 1] = some (.im (.int x.2)) := by
  show (L2.atI [.str x.1, .int x.2] 1).map Vl.im = _
  rw [at1]
  rfl
theorem W_gT_bD {e : Env} {x : Str × Int} {gs : List D → M Unit} {Q : Unit → Env → Prop} : @W _ (gT 2 gs (.im (bD x))) e ⟨Q⟩ = @W _ (gs [.str x.1, .int x.2]) e ⟨Q⟩ := by
  show @W _ (gT 2 gs (.im (.tup [.str x.1, .int x.2]))) e ⟨Q⟩ = _
  rw [W_gT, show decide (([.str x.1, .int x.2] : List D).length = 2) = true from rfl, WC_true]
theorem Dn_i0 (x : Dn) : ixD [Dn.d x, .int 0] = some (.im (.int x.ra)) := by
  show (L2.atI [.int x.ra, .int x.su, .tup (x.ls.map Lt.d), .tp (x.bs.map bD)] 0).map Vl.im = _
  rw [at0]
  rfl
theorem Dn_i1 (x : Dn) : ixD [Dn.d x, .int 1] = some (.im (.int x.su)) := by
  show (L2.atI [.int x.ra, .int x.su, .tup (x.ls.map Lt.d), .tp (x.bs.map bD)] 1).map Vl.im = _
  rw [at1]
  rfl
theorem Dn_i2 (x : Dn) : ixD [Dn.d x, .int 2] = some (.im (.tup (x.ls.map Lt.d))) := by
  show (L2.atI [.int x.ra, .int x.su, .tup (x.ls.map Lt.d), .tp (x.bs.map bD)] 2).map Vl.im = _
  rw [at2]
  rfl
theorem Dn_i3 (x : Dn) : ixD [Dn.d x, .int 3] = some (.im (.tp (x.bs.map bD))) := by
  show (L2.atI [.int x.ra, .int x.su, .tup (x.ls.map Lt.d), .tp (x.bs.map bD)] 3).map Vl.im = _
  rw [at3]
  rfl
theorem W_gT_Dn {e : Env} {x : Dn} {gs : List D → M Unit} {Q : Unit → Env → Prop} : @W _ (gT 4 gs (.im (Dn.d x))) e ⟨Q⟩ = @W _ (gs [.int x.ra, .int x.su, .tup (x.ls.map Lt.d), .tp (x.bs.map bD)]) e ⟨Q⟩ := by
  show @W _ (gT 4 gs (.im (.tup [.int x.ra, .int x.su, .tup (x.ls.map Lt.d), .tp (x.bs.map bD)]))) e ⟨Q⟩ = _
  rw [W_gT, show decide (([.int x.ra, .int x.su, .tup (x.ls.map Lt.d), .tp (x.bs.map bD)] : List D).length = 4) = true from rfl, WC_true]
theorem Rw_i0 (x : Rw) : ixD [Rw.d x, .int 0] = some (.im (.int x.ra)) := by
  show (L2.atI [.int x.ra, .int x.le, .int x.ca, .int x.rn, .int x.so, .int x.dr, .int x.st] 0).map Vl.im = _
  rw [at0]
  rfl
theorem Rw_i1 (x : Rw) : ixD [Rw.d x, .int 1] = some (.im (.int x.le)) := by
  show (L2.atI [.int x.ra, .int x.le, .int x.ca, .int x.rn, .int x.so, .int x.dr, .int x.st] 1).map Vl.im = _
  rw [at1]
  rfl
theorem Rw_i2 (x : Rw) : ixD [Rw.d x, .int 2] = some (.im (.int x.ca)) := by
  show (L2.atI [.int x.ra, .int x.le, .int x.ca, .int x.rn, .int x.so, .int x.dr, .int x.st] 2).map Vl.im = _
  rw [at2]
  rfl
theorem Rw_i3 (x : Rw) : ixD [Rw.d x, .int 3] = some (.im (.int x.rn)) := by
  show (L2.atI [.int x.ra, .int x.le, .int x.ca, .int x.rn, .int x.so, .int x.dr, .int x.st] 3).map Vl.im = _
  rw [at3]
  rfl
theorem Rw_i4 (x : Rw) : ixD [Rw.d x, .int 4] = some (.im (.int x.so)) := by
  show (L2.atI [.int x.ra, .int x.le, .int x.ca, .int x.rn, .int x.so, .int x.dr, .int x.st] 4).map Vl.im = _
  rw [at4]
  rfl
theorem Rw_i5 (x : Rw) : ixD [Rw.d x, .int 5] = some (.im (.int x.dr)) := by
  show (L2.atI [.int x.ra, .int x.le, .int x.ca, .int x.rn, .int x.so, .int x.dr, .int x.st] 5).map Vl.im = _
  rw [at5]
  rfl
theorem Rw_i6 (x : Rw) : ixD [Rw.d x, .int 6] = some (.im (.int x.st)) := by
  show (L2.atI [.int x.ra, .int x.le, .int x.ca, .int x.rn, .int x.so, .int x.dr, .int x.st] 6).map Vl.im = _
  rw [at6]
  rfl
theorem W_gT_Rw {e : Env} {x : Rw} {gs : List D → M Unit} {Q : Unit → Env → Prop} : @W _ (gT 7 gs (.im (Rw.d x))) e ⟨Q⟩ = @W _ (gs [.int x.ra, .int x.le, .int x.ca, .int x.rn, .int x.so, .int x.dr, .int x.st]) e ⟨Q⟩ := by
  show @W _ (gT 7 gs (.im (.tup [.int x.ra, .int x.le, .int x.ca, .int x.rn, .int x.so, .int x.dr, .int x.st]))) e ⟨Q⟩ = _
  rw [W_gT, show decide (([.int x.ra, .int x.le, .int x.ca, .int x.rn, .int x.so, .int x.dr, .int x.st] : List D).length = 7) = true from rfl, WC_true]
theorem Ter_i0 (fl : List Fld) (gs : List Gt) : ixD [terD fl gs, .int 0] = some (.im (.tup (fl.map Fld.d))) := by
  show (L2.atI [D.tup (fl.map Fld.d), D.tup (gs.map Gt.d)] 0).map Vl.im = _
  rw [at0]
  rfl
theorem Ter_i1 (fl : List Fld) (gs : List Gt) : ixD [terD fl gs, .int 1] = some (.im (.tup (gs.map Gt.d))) := by
  show (L2.atI [D.tup (fl.map Fld.d), D.tup (gs.map Gt.d)] 1).map Vl.im = _
  rw [at1]
  rfl
end PD
namespace PD
open PySem PySem.Spec PyProof.Rows L2
/-! ### sum(t), min(t), max(t) of a tuple of whole numbers -/
section
variable {prog : Program} {w : World} {A : Around} {E : Value → Shared → Prop} {s : Shared} {l : Addr} {xs : Array (Int × Tok)}
theorem iter_intTup {Q : Value → Shared → Prop} (hl : s.heap.IsTuple l (intItems xs))
    (h : ∀ s₂ : Shared, s₂ = { s with heap := s.heap.push { cls := .type "tuple_iterator", data := .fields #[.ref l, .int 0 0] } } →
      (s₂.heap.IsTupleIter s.heap.objs.size l 0 ∧ s₂.heap.IsTuple l (intItems xs)) → (∀ b ∈ [s.heap.objs.size, l], b < s₂.heap.objs.size) → l ≠ s.heap.objs.size → Q (.ref s.heap.objs.size) s₂) :
    wpAny (model prog w) A (pyIter (.ref l)) Q E s := by
  have hlt : l < s.heap.objs.size := by obtain ⟨_, e, _⟩ := hl; exact Heap.lt_size e
  refine wpAny_pyIter_tuple hl (h _ rfl ⟨⟨_, Heap.get?_push_size _ rfl, rfl, rfl⟩, hl.push _⟩ (fun b hb => ?_) (Nat.ne_of_lt hlt))
  show b < (s.heap.push _).objs.size
  rw [Heap.size_push]
  rcases List.mem_cons.mp hb with rfl | hb
  · exact Nat.lt_succ_self _
  · rcases List.mem_cons.mp hb with rfl | hb
    · exact Nat.lt_succ_of_lt hlt
    · cases hb
theorem old_keptT {h' : Heap} {o1 : Obj} (hk : ∀ b o, b ∉ [s.heap.objs.size] → (s.heap.push o1).get? b = some o → h'.get? b = some o) :
    ∀ b o, s.heap.get? b = some o → h'.get? b = some o := fun b o e => by
  refine hk b o (fun hm => ?_) (Heap.get?_push_of_some _ e)
  rcases List.mem_cons.mp hm with e1 | hm
  · exact absurd (e1 ▸ Heap.lt_size e) (Nat.lt_irrefl _)
  · cases hm
theorem sum_intTup {Q : Value → Shared → Prop} (hh : A.handled = none) (hl : s.heap.IsTuple l (intItems xs))
    (h : ∀ h' tk t', (∀ b o, s.heap.get? b = some o → h'.get? b = some o) → Q (.int (preSum (numAt xs) xs.size) t') { s with heap := h', toks := tk }) :
    wpAny (model prog w) A (call (.builtin "sum") [.ref l]) Q E s := by
  refine call_sum_walkG (iter_intTup hl fun s₂ e st hfp hlI => ?_)
  subst e
  refine ⟨_, _, _, _, _, _, numAt xs, rfl, Walks.tuple (A := A.in1) hh _ l hlI (intItems xs), st, hfp, (fun _ _ => intItems_at), fun h' tk t' hk => ?_⟩
  have := h h' tk t' (old_keptT hk)
  simpa [intItems] using this
theorem max_intTup {Q : Value → Shared → Prop} (hh : A.handled = none) (hl : s.heap.IsTuple l (intItems xs)) (hne : 0 < xs.size)
    (h : ∀ v h' tk, (intItems xs)[argBest (fun i j => decide (numAt xs i > numAt xs j)) (xs.size - 1)]? = some v → (∀ b o, s.heap.get? b = some o → h'.get? b = some o) → Q v { s with heap := h', toks := tk }) :
    wpAny (model prog w) A (call (.builtin "max") [.ref l]) Q E s := by
  refine call_max_walk (iter_intTup hl fun s₂ e st hfp hlI => ?_)
  subst e
  refine ⟨_, _, _, _, _, _, _, rfl, Walks.tuple (A := A.in1) hh _ l hlI (intItems xs), st, hfp, by simpa [intItems] using hne, CmpOf.ints_gt (numAt xs) (fun _ _ => intItems_at), fun v h' tk hP hk => ?_⟩
  exact h v h' tk (by simpa [intItems] using hP) (old_keptT hk)
theorem min_intTup {Q : Value → Shared → Prop} (hh : A.handled = none) (hl : s.heap.IsTuple l (intItems xs)) (hne : 0 < xs.size)
    (h : ∀ v h' tk, (intItems xs)[argBest (fun i j => decide (numAt xs i < numAt xs j)) (xs.size - 1)]? = some v → (∀ b o, s.heap.get? b = some o → h'.get? b = some o) → Q v { s with heap := h', toks := tk }) :
    wpAny (model prog w) A (call (.builtin "min") [.ref l]) Q E s := by
  refine call_min_walk (iter_intTup hl fun s₂ e st hfp hlI => ?_)
  subst e
  refine ⟨_, _, _, _, _, _, _, rfl, Walks.tuple (A := A.in1) hh _ l hlI (intItems xs), st, hfp, by simpa [intItems] using hne, CmpOf.ints_lt (numAt xs) (fun _ _ => intItems_at), fun v h' tk hP hk => ?_⟩
  exact h v h' tk (by simpa [intItems] using hP) (old_keptT hk)
end
section
variable {prog : Program} {w : World} {A : Around} {E : Value → Shared → Prop} {s : Shared} {l : Addr} {its : List Value} {ns : List Int} {Q : Value → Shared → Prop}
theorem sum_rawT (hh : A.handled = none) (hl : s.heap.IsTuple l its.toArray) (hi : IntsAre its ns)
    (h : ∀ h' tk t', (∀ b o, s.heap.get? b = some o → h'.get? b = some o) → Q (.int ns.sum t') { s with heap := h', toks := tk }) : wpAny (model prog w) A (call (.builtin "sum") [.ref l]) Q E s := by
  obtain ⟨xs, e⟩ := hi.allInts.items
  have hn : numsOf (intItems xs).toList = ns := by rw [← e]; exact hi.numsOf
  rw [nums_intItems] at hn
  rw [e] at hl
  refine sum_intTup hh hl fun h' tk t' hk => ?_
  have := h h' tk t' hk
  rw [preSum_eq, List.take_of_length_le (by simp), hn]; exact this
theorem max_rawT (hh : A.handled = none) (hl : s.heap.IsTuple l its.toArray) (hi : IntsAre its ns) (hne : 0 < ns.length)
    (h : ∀ h' tk M t', (∀ b o, s.heap.get? b = some o → h'.get? b = some o) → M ∈ ns → (∀ a, a ∈ ns → a ≤ M) → Q (.int M t') { s with heap := h', toks := tk }) : wpAny (model prog w) A (call (.builtin "max") [.ref l]) Q E s := by
  obtain ⟨xs, e⟩ := hi.allInts.items
  have hn : numsOf (intItems xs).toList = ns := by rw [← e]; exact hi.numsOf
  rw [nums_intItems] at hn
  subst hn
  rw [e] at hl
  have hsz : 0 < xs.size := by simpa using hne
  refine max_intTup hh hl hsz fun v h' tk hv hk => ?_
  obtain ⟨t, rfl⟩ := intItems_at hv
  obtain ⟨h1, h2⟩ := argBest_gt (numAt xs) (xs.size - 1)
  refine h h' tk _ t hk ?_ fun a ha => ?_
  · rw [numAt_eq]; exact PySem.getD_mem (by rw [List.length_map, Array.length_toList]; omega)
  · obtain ⟨j, hj, rfl⟩ := mem_getD ha
    rw [List.length_map, Array.length_toList] at hj
    rw [← numAt_eq]; exact h2 j (by omega)
theorem min_rawT (hh : A.handled = none) (hl : s.heap.IsTuple l its.toArray) (hi : IntsAre its ns) (hne : 0 < ns.length)
    (h : ∀ h' tk M t', (∀ b o, s.heap.get? b = some o → h'.get? b = some o) → M ∈ ns → (∀ a, a ∈ ns → M ≤ a) → Q (.int M t') { s with heap := h', toks := tk }) : wpAny (model prog w) A (call (.builtin "min") [.ref l]) Q E s := by
  obtain ⟨xs, e⟩ := hi.allInts.items
  have hn : numsOf (intItems xs).toList = ns := by rw [← e]; exact hi.numsOf
  rw [nums_intItems] at hn
  subst hn
  rw [e] at hl
  have hsz : 0 < xs.size := by simpa using hne
  refine min_intTup hh hl hsz fun v h' tk hv hk => ?_
  obtain ⟨t, rfl⟩ := intItems_at hv
  obtain ⟨h1, h2⟩ := argBest_lt (numAt xs) (xs.size - 1)
  refine h h' tk _ t hk ?_ fun a ha => ?_
  · rw [numAt_eq]; exact PySem.getD_mem (by rw [List.length_map, Array.length_toList]; omega)
  · obtain ⟨j, hj, rfl⟩ := mem_getD ha
    rw [List.length_map, Array.length_toList] at hj
    rw [← numAt_eq]; exact h2 j (by omega)
end
section
variable {X : Cx}
def rSumT (K : PySem.W.Frag) : List V → Hp → VK → Prop := fun vs H Q => ∃ (a : Addr) (ns : List Int), vs = [V.ref a] ∧ SqT K H a (ns.map V.int) ∧ Q (.int ns.sum) H
def rMaxT (K : PySem.W.Frag) : List V → Hp → VK → Prop := fun vs H Q => ∃ (a : Addr) (ns : List Int), vs = [V.ref a] ∧ SqT K H a (ns.map V.int) ∧ 0 < ns.length ∧ ∀ m, m ∈ ns → (∀ y, y ∈ ns → y ≤ m) → Q (.int m) H
def rMinT (K : PySem.W.Frag) : List V → Hp → VK → Prop := fun vs H Q => ∃ (a : Addr) (ns : List Int), vs = [V.ref a] ∧ SqT K H a (ns.map V.int) ∧ 0 < ns.length ∧ ∀ m, m ∈ ns → (∀ y, y ∈ ns → m ≤ y) → Q (.int m) H
theorem cr_sumT (hc : X.calm = true) : CallR X (.builtin "sum") (rSumT X.K) := by
  intro pins s σ H vs us Q I r h
  obtain ⟨a, ns, rfl, hs, q⟩ := h
  obtain ⟨its, rv, hl, _⟩ := I.tuple hs
  rw [Vals.ref1 r]
  exact sum_rawT (I.ok.hd hc) (show s.heap.IsTuple a its.toArray from hl) rv.ints fun h' tk t' hk => ⟨.int _, H, I.kept hk, ⟨_, rfl⟩, q⟩
theorem cr_maxT (hc : X.calm = true) : CallR X (.builtin "max") (rMaxT X.K) := by
  intro pins s σ H vs us Q I r h
  obtain ⟨a, ns, rfl, hs, hne, q⟩ := h
  obtain ⟨its, rv, hl, _⟩ := I.tuple hs
  rw [Vals.ref1 r]
  exact max_rawT (I.ok.hd hc) (show s.heap.IsTuple a its.toArray from hl) rv.ints hne fun h' tk m t' hk h1 h2 => ⟨.int _, H, I.kept hk, ⟨_, rfl⟩, q m h1 h2⟩
theorem cr_minT (hc : X.calm = true) : CallR X (.builtin "min") (rMinT X.K) := by
  intro pins s σ H vs us Q I r h
  obtain ⟨a, ns, rfl, hs, hne, q⟩ := h
  obtain ⟨its, rv, hl, _⟩ := I.tuple hs
  rw [Vals.ref1 r]
  exact min_rawT (I.ok.hd hc) (show s.heap.IsTuple a its.toArray from hl) rv.ints hne fun h' tk m t' hk h1 h2 => ⟨.int _, H, I.kept hk, ⟨_, rfl⟩, q m h1 h2⟩
end
def sumTD : List D → Option Vl
  | [.tup ds] => (intsD ds).map fun ns => .im (.int ns.sum)
  | _ => none
def maxTD : List D → Option Vl
  | [.tup ds] => match intsD ds with
    | some (i :: ns) => some (.im (.int (maxL i ns)))
    | _ => none
  | _ => none
def minTD : List D → Option Vl
  | [.tup ds] => match intsD ds with
    | some (i :: ns) => some (.im (.int (minL i ns)))
    | _ => none
  | _ => none
theorem Rr.tupT {K : PySem.W.Frag} {B H : Hp} {ds : List D} {v : V} (s : Same B H) (h : Rr K B H (.tup ds) v) : ∃ a xs, v = .ref a ∧ SqT K H a xs ∧ Rps K B ds xs := by
  cases h with
  | fz r => cases r with
    | tup h r => exact ⟨_, _, rfl, (h.same s).sq, r⟩
  | ct c =>
    rename_i p
    generalize H p = o at c
    cases c
theorem ca_sumT {g : G0} : CaI g (.builtin "sum") sumTD := by
  refine ⟨rSumT g.K, fun c X hX => by rw [← hX.eK]; exact cr_sumT hX.calm, fun A B H vs env xs ds res Q S rr e q => ?_⟩
  unfold sumTD at e
  split at e
  · rename_i es
    cases hs : intsD es with
    | none =>
      rw [hs] at e
      cases e
    | some ns =>
      rw [hs] at e
      cases e
      obtain ⟨x, rfl, r1⟩ := pr1 rr
      obtain ⟨a, us, rfl, ha, ra⟩ := Rr.tupT S.same r1
      rw [intsD_map hs] at ra
      rw [ra.ints] at ha
      exact ⟨a, ns, rfl, ha, q B H _ (Same.refl _) ⟨S, .int _⟩⟩
  · cases e
theorem ca_maxT {g : G0} : CaI g (.builtin "max") maxTD := by
  refine ⟨rMaxT g.K, fun c X hX => by rw [← hX.eK]; exact cr_maxT hX.calm, fun A B H vs env xs ds res Q S rr e q => ?_⟩
  unfold maxTD at e
  split at e
  · rename_i es
    split at e
    · rename_i i ns hs
      cases e
      obtain ⟨x, rfl, r1⟩ := pr1 rr
      obtain ⟨a, us, rfl, ha, ra⟩ := Rr.tupT S.same r1
      rw [intsD_map hs] at ra
      rw [ra.ints] at ha
      refine ⟨a, i :: ns, rfl, ha, by simp, fun m hm hle => ?_⟩
      obtain ⟨h1, h2⟩ := maxL_of ns i
      have := hle _ h1
      have := h2 m hm
      have e : m = maxL i ns := by omega
      rw [e]
      exact q B H _ (Same.refl _) ⟨S, .int _⟩
    · cases e
  · cases e
theorem ca_minT {g : G0} : CaI g (.builtin "min") minTD := by
  refine ⟨rMinT g.K, fun c X hX => by rw [← hX.eK]; exact cr_minT hX.calm, fun A B H vs env xs ds res Q S rr e q => ?_⟩
  unfold minTD at e
  split at e
  · rename_i es
    split at e
    · rename_i i ns hs
      cases e
      obtain ⟨x, rfl, r1⟩ := pr1 rr
      obtain ⟨a, us, rfl, ha, ra⟩ := Rr.tupT S.same r1
      rw [intsD_map hs] at ra
      rw [ra.ints] at ha
      refine ⟨a, i :: ns, rfl, ha, by simp, fun m hm hle => ?_⟩
      obtain ⟨h1, h2⟩ := minL_of ns i
      have := hle _ h1
      have := h2 m hm
      have e : m = minL i ns := by omega
      rw [e]
      exact q B H _ (Same.refl _) ⟨S, .int _⟩
    · cases e
  · cases e
theorem sumT_ints (ns : List Int) : sumTD [.tup (ns.map D.int)] = some (.im (.int ns.sum)) := by
  have := intsD_mapA (fun i : Int => i) ns
  show (intsD (ns.map D.int)).map _ = _
  rw [show ns.map D.int = ns.map fun i => D.int i from rfl, this]
  simp
theorem sumT_cons (i : Int) (ds : List D) : intsD (.int i :: ds) = (intsD ds).map (i :: ·) := rfl
end PD
namespace PD
open PySem PySem.Spec PyProof.Rows L2
theorem WB_no {p : Prop} [Decidable p] {P R : Prop} (h : ¬ p) (q : R) : @WB (decide p) ⟨P, R⟩ := WB_cases' (fun z => absurd z h) (fun _ => q)
theorem WB_yes {p : Prop} [Decidable p] {P R : Prop} (h : p) (q : P) : @WB (decide p) ⟨P, R⟩ := WB_cases' (fun _ => q) (fun z => absurd h z)
theorem i63_0 : in63 (0 : Int) = true := by decide
theorem i63_1 : in63 (1 : Int) = true := by decide
/-! ### enumerate of things told by a -/
theorem enum_zip {α : Type} (c : α → D) : ∀ (l : List α) (k : Nat), enumD k (l.map c) = (l.zipIdx k).map fun p => .tup [.int (p.2 : Int), c p.1]
  | [], _ => rfl
  | a :: l, k => by
    rw [List.map_cons, List.zipIdx_cons, List.map_cons, ← enum_zip c l (k + 1)]
    rfl
theorem enum_map {α : Type} (c : α → D) (l : List α) : enumD 0 (l.map c) = l.zipIdx.map fun p => .tup [.int (p.2 : Int), c p.1] := enum_zip c l 0
theorem zipIdx_at {α : Type} {l : List α} {p : α × Nat} (h : p ∈ l.zipIdx) : l[p.2]? = some p.1 := by
  obtain ⟨a, i⟩ := p
  have := List.mem_zipIdx_iff_getElem?.mp h
  simpa using this
/-! ### the water of a field's day -/
theorem sum_nn : ∀ {l : List Int}, (∀ x ∈ l, 0 ≤ x) → 0 ≤ l.sum
  | [], _ => Int.le_refl _
  | x :: l, h => by
    have h1 := h x (List.mem_cons_self ..)
    have h2 := sum_nn (l := l) fun y hy => h y (List.mem_cons_of_mem _ hy)
    rw [List.sum_cons]
    omega
theorem Dn.ok.into_nn {n : Dn} (h : n.ok) (x : Str) : 0 ≤ n.into x := sum_nn fun y hy => by
  obtain ⟨l, hl, rfl⟩ := List.mem_map.mp hy
  exact (h.l0 l (List.mem_filter.mp hl).1).2.2.1
theorem Dn.ok.lvl_nn {n : Dn} (h : n.ok) {f : Fld} (hf : f.ok) : 0 ≤ n.lvl f ∧ n.lvl f ≤ 999 := by
  unfold Dn.lvl
  cases e : lkB n.bs f.nm with
  | none =>
    obtain ⟨_, _, _, d0, d1, _⟩ := hf
    exact ⟨by show 0 ≤ f.dy; omega, d1⟩
  | some v =>
    have := h.b1 _ ((lk_mem h.b0).mp e)
    exact ⟨this.2.1, by have := this.2.2; show v ≤ 999; omega⟩
theorem rn_nn (f : Fld) (w : Int) (n : Dn) (ca : Int) : 0 ≤ (rowOf f w n ca).rn := by
  show 0 ≤ w + n.ra + n.into f.nm + ca - mn (w + n.ra + n.into f.nm + ca) (n.lvl f)
  unfold mn
  split <;> omega
structure RowFacts (f : Fld) (w : Int) (n : Dn) (ca : Int) (r : Rw) : Prop where
  ra : r.ra = n.ra
  le : r.le = n.into f.nm
  ca : r.ca = ca
  all : w + r.ra + r.le + r.ca = r.rn + r.so + r.dr + r.st
  rn0 : 0 ≤ r.rn
  so0 : 0 ≤ r.so
  dr0 : 0 ≤ r.dr
  st0 : 0 ≤ r.st
  held : r.so + r.dr + r.st ≤ n.lvl f
  full : 0 < r.rn → r.so + r.dr + r.st = n.lvl f
  so1 : r.so ≤ f.so
  dr1 : r.dr ≤ n.su
  dry : r.st = 0 ∨ (r.so = f.so ∧ r.dr = n.su)
  ra0 : 0 ≤ r.ra
  le0 : 0 ≤ r.le
  ca0 : 0 ≤ r.ca
theorem row_facts {f : Fld} {w : Int} {n : Dn} {ca : Int} (hf : f.ok) (hn : n.ok) (hw : 0 ≤ w) (hc : 0 ≤ ca) : RowFacts f w n ca (rowOf f w n ca) := by
  have h1 := hn.into_nn f.nm
  have h2 := hn.lvl_nn hf
  have h3 := hn.r0
  have h4 := hn.s0
  obtain ⟨_, _, _, _, _, h5, _⟩ := hf
  have e : ∀ (I L : Int), n.into f.nm = I → n.lvl f = L → RowFacts f w n ca (rowOf f w n ca) := by
    intro I L hI hL
    rw [hI] at h1
    rw [hL] at h2
    have e1 : rowOf f w n ca = ⟨n.ra, I, ca, w + n.ra + I + ca - mn (w + n.ra + I + ca) L, mn (mn (w + n.ra + I + ca) L) f.so, mn (mn (w + n.ra + I + ca) L - mn (mn (w + n.ra + I + ca) L) f.so) n.su, mn (w + n.ra + I + ca) L - mn (mn (w + n.ra + I + ca) L) f.so - mn (mn (w + n.ra + I + ca) L - mn (mn (w + n.ra + I + ca) L) f.so) n.su⟩ := by
      unfold rowOf
      rw [hI, hL]
    rw [e1]
    refine ⟨rfl, hI.symm, rfl, ?_, ?_, ?_, ?_, ?_, ?_, ?_, ?_, ?_, ?_, h3, h1, hc⟩ <;> (try rw [hL]) <;> dsimp only <;> unfold mn <;> (repeat' split) <;> omega
  exact e _ _ rfl rfl
theorem Sol.rn_nn {fl : List Fld} {st : List Int} {n : Dn} {rs : List Rw} (h : Sol fl st n rs) (hst : st.length = fl.length) : ∀ r ∈ rs, 0 ≤ r.rn := fun r hr => by
  obtain ⟨i, hi⟩ := List.mem_iff_getElem?.mp hr
  have hl := (List.getElem?_eq_some_iff.mp hi).1
  obtain ⟨f, hf, _⟩ := at_of (l := fl) (i := i) (by rw [← h.len]; exact hl)
  obtain ⟨w, hw, _⟩ := at_of (l := st) (i := i) (by rw [hst, ← h.len]; exact hl)
  rw [h.row i f w r hf hw hi]
  exact PD.rn_nn _ _ _ _
theorem Sol.facts {fl : List Fld} {st : List Int} {n : Dn} {rs : List Rw} (h : Sol fl st n rs) (hst : st.length = fl.length) (ht : TerrOk fl) (hn : n.ok) (hw : ∀ w ∈ st, 0 ≤ w) {i : Nat} {f : Fld} {w : Int} {r : Rw} (h1 : fl[i]? = some f) (h2 : st[i]? = some w) (h3 : rs[i]? = some r) : RowFacts f w n (cameOf fl rs f.nm) r := by
  have e := h.row i f w r h1 h2 h3
  have := row_facts (ca := cameOf fl rs f.nm) (ht.ok f (List.mem_of_getElem? h1)) hn (hw w (List.mem_of_getElem? h2)) (cameOf_nn (h.rn_nn hst))
  rw [← e] at this
  exact this
/-- by places: what comes from those above -/
theorem came_idx {x : Str} : ∀ (fl : List Fld) (rs pre : List Rw), rs.length = fl.length →
    (((fl.zipIdx pre.length).filter fun p => decide (p.1.bl = x)).map fun p => (((pre ++ rs)[p.2]?).getD zeroR).rn).sum = cameOf fl rs x
  | [], rs, _, h => by
    cases rs with
    | nil => rfl
    | cons _ _ => simp at h
  | f :: fl, [], _, h => by simp at h
  | f :: fl, r :: rs, pre, h => by
    have ih := came_idx (x := x) fl rs (pre ++ [r]) (by simpa using h)
    have e1 : (pre ++ r :: rs)[pre.length]? = some r := by simp
    have e2 : pre ++ [r] ++ rs = pre ++ r :: rs := by simp
    rw [e2, List.length_append, List.length_singleton] at ih
    rw [List.zipIdx_cons]
    by_cases hx : f.bl = x
    · rw [List.filter_cons_of_pos (by simpa using hx), List.map_cons, List.sum_cons, ih, cameOf, if_pos hx, e1]
      rfl
    · rw [List.filter_cons_of_neg (by simpa using hx), ih, cameOf, if_neg hx]
      omega
theorem came_idx0 {x : Str} {fl : List Fld} {rs : List Rw} (h : rs.length = fl.length) : ((fl.zipIdx.filter fun p => decide (p.1.bl = x)).map fun p => ((rs[p.2]?).getD zeroR).rn).sum = cameOf fl rs x := came_idx fl rs [] h
end PD
/-! ### zip(x, y) of a list and a tuple, in any mix, as what is walked -/
namespace PD
open PySem PySem.Spec PyProof.Rows L2 PDZ
def SqM (K : PySem.W.Frag) (k : Bool) (H : Hp) (a : Addr) (xs : List V) : Prop := match k with
  | true => SqT K H a xs
  | false => SqL K H a xs
def ItM (k : Bool) (h : Heap) (it a : Addr) (i : Nat) : Prop := match k with
  | true => h.IsTupleIter it a i
  | false => h.IsListIter it a i
def IsM (k : Bool) (h : Heap) (a : Addr) (its : Array Value) : Prop := match k with
  | true => h.IsTuple a its
  | false => h.IsList a its
theorem drawsM {prog : Program} {w : World} {A : Around} (k : Bool) (hh : A.handled = none) (it a : Addr) (ne : a ≠ it) (its : Array Value) : Draws prog w A it [it, a] its.size (fun i v => its[i]? = some v) (fun i h => ItM k h it a i ∧ IsM k h a its) := by
  cases k with
  | true => exact Draws.tuple hh it a ne its
  | false => exact Draws.list hh it a ne its
theorem seqM {X : Cx} {pins : List (Addr × Obj)} {σ : L2.St} {H : Hp} {s : Shared} {a : Addr} {xs : List V} {k : Bool} (I : Inv X pins σ H s) (h : SqM X.K k H a xs) : ∃ its : List Value, Vals xs its ∧ IsM k s.heap a its.toArray ∧ xs.length ≤ sizeLine := by
  cases k with
  | true =>
    obtain ⟨its, rv, p, z⟩ := I.tuple h
    exact ⟨its, rv, p, z⟩
  | false =>
    obtain ⟨its, rv, p, z⟩ := I.list h
    exact ⟨its, rv, p.isList, z⟩
theorem injM {X : Cx} {pins : List (Addr × Obj)} {σ : L2.St} {H : Hp} {s : Shared} {a : Addr} {xs ys : List V} {k : Bool} (I : Inv X pins σ H s) (h : SqM X.K k H a xs) (h' : SqM X.K k H a ys) : xs = ys := by
  cases k with
  | true => exact I.tuple_inj h h'
  | false => exact I.list_inj h h'
theorem ItM.obj {k : Bool} {h : Heap} {it a : Addr} {i : Nat} (x : ItM k h it a i) : ∃ o, h.get? it = some o ∧ ∀ v, o.data ≠ .cell v := by
  cases k with
  | true =>
    obtain ⟨o, e, _, d⟩ := x
    exact ⟨o, e, fun v q => by rw [d] at q; cases q⟩
  | false =>
    obtain ⟨o, e, _, d⟩ := x
    exact ⟨o, e, fun v q => by rw [d] at q; cases q⟩
theorem ItM.keep {k : Bool} {h h' : Heap} {it a : Addr} {i : Nat} (x : ItM k h it a i) (kk : ∀ o, h.get? it = some o → h'.get? it = some o) : ItM k h' it a i := by
  cases k with
  | true => exact Heap.IsTupleIter.at x kk
  | false => exact Heap.IsListIter.at x kk
def ItzM (K : PySem.W.Frag) (k k' : Bool) (a b : Addr) : It :=
  ⟨fun i H => ∃ (xs ys : List V) (x y : V), SqM K k H a xs ∧ SqM K k' H b ys ∧ xs[i]? = some x ∧ ys[i]? = some y,
    fun i H v H' => ∃ T x y, v = .ref T ∧ H T = none ∧ H' = upd H T (.tup [x, y]) ∧ (∀ xs, SqM K k H a xs → xs[i]? = some x) ∧ ∀ ys, SqM K k' H b ys → ys[i]? = some y,
    fun i H => ∃ xs ys : List V, SqM K k H a xs ∧ SqM K k' H b ys ∧ i ≤ xs.length ∧ i ≤ ys.length ∧ (i = xs.length ∨ i = ys.length)⟩
theorem turn_zipM {P : Program} {w : World} {K : PySem.W.Frag} {elts : List Expr} {kk : Nat} {tpos : Pos} {k k' : Bool} {a b zz ti tq j1 j2 : Addr} (D : ZipSep2 zz ti tq j1 j2 [j1, a] [j2, b]) (na : a ≠ j1) (nb : b ≠ j2) :
    Turn P w K (.Tuple elts kk tpos) (ItzM K k k' a b) [zz, ti, tq, j1, j2] zz (fun i h => IsZip h zz ti tq .none ∧ IsTupOf2 h ti (.ref j1) (.ref j2) ∧ (∃ x y, IsTupOf2 h tq x y) ∧ ItM k h j1 a i ∧ ItM k' h j2 b i) where
  mem := by simp
  obj := fun i h st c hc => by
    obtain ⟨g1, g2, ⟨x, y, g3⟩, g4, g5⟩ := st
    have hc : c = zz ∨ c = ti ∨ c = tq ∨ c = j1 ∨ c = j2 := by simpa using hc
    rcases hc with rfl | rfl | rfl | rfl | rfl
    · exact ⟨_, g1, fun v q => nomatch q⟩
    · exact ⟨_, g2, fun v q => nomatch q⟩
    · exact ⟨_, g3, fun v q => nomatch q⟩
    · exact g4.obj
    · exact g5.obj
  keep := fun i h h' st kp => by
    obtain ⟨g1, g2, ⟨x, y, g3⟩, g4, g5⟩ := st
    exact ⟨kp zz (by simp) _ g1, kp ti (by simp) _ g2, ⟨x, y, kp tq (by simp) _ g3⟩, g4.keep fun o q => kp j1 (by simp) o q, g5.keep fun o q => kp j2 (by simp) o q⟩
  item := by
    intro X hP hw hK hc i pins s σ H E I hf st hg
    subst hP hw hK
    obtain ⟨g1, g2, ⟨x0, y0, g3⟩, g4, g5⟩ := st
    obtain ⟨xs, ys, x, y, qa, qb, hx, hy⟩ := hg
    obtain ⟨its, rv, p, _⟩ := seqM I qa
    obtain ⟨jts, rw', p2, _⟩ := seqM I qb
    obtain ⟨u, hu, ru⟩ := rv.get hx
    obtain ⟨u2, hu2, ru2⟩ := rw'.get hy
    have li : i < its.toArray.size := by simpa using (List.getElem?_eq_some_iff.mp hu).1
    have lj : i < jts.toArray.size := by simpa using (List.getElem?_eq_some_iff.mp hu2).1
    have hzl : zz < s.heap.objs.size := Heap.lt_size g1
    have hh := I.ok.hd hc
    refine wpAny_pyNext_zipD2_item D (drawsM k (A := X.A.in1) hh j1 a na its.toArray) (drawsM k' (A := X.A.in1) hh j2 b nb jts.toArray) g1 g2 g3 ⟨g4, p⟩ ⟨g5, p2⟩ li lj fun v1 v2 h' tk e1 e2 z' tq' c1 c2 hT hsz hkp => ?_
    have w1 : v1 = u := by
      have e1 : its[i]? = some v1 := by simpa using e1
      rw [hu] at e1
      exact (Option.some.inj e1).symm
    have w2 : v2 = u2 := by
      have e2 : jts[i]? = some v2 := by simpa using e2
      rw [hu2] at e2
      exact (Option.some.inj e2).symm
    subst w1 w2
    refine ⟨_, rfl, wpAny_letOwnedTupleGo_zip (s := { s with heap := h', toks := tk }) z' fun h2 z2 sb => ?_⟩
    have hT2 : h2.get? s.heap.objs.size = some { cls := .type "tuple", data := .seq #[v1, v2] } := (sb.2 _ (Nat.ne_of_gt hzl)).trans hT
    have fr := I.hok.fresh (Nat.le_refl s.heap.objs.size)
    have new : ObjOk X.prog X.w (upd H s.heap.objs.size (.tup [x, y])) h2 s.heap.objs.size (.tup [x, y]) :=
      ⟨(by show 2 ≤ sizeLine; rw [sizeLine_eq]; decide), [v1, v2], .cons ru (.cons ru2 .nil), ⟨_, hT2, rfl, _, rfl⟩⟩
    have I1 : Inv X pins σ (upd H s.heap.objs.size (.tup [x, y])) { s with heap := h2, toks := tk } :=
      I.turnedNew (t' := tk) (ch := [zz, ti, tq, j1, j2]) (fun c o hb q => by
        have hb : c ≠ zz ∧ c ≠ ti ∧ c ≠ tq ∧ c ≠ j1 ∧ c ≠ j2 := by simpa using hb
        exact (sb.2 c hb.1).trans (hkp c o hb.1 hb.2.2.1 hb.2.2.2.1 hb.2.2.2.2 q)) hf (Nat.le_refl _) new
    refine ⟨.ref s.heap.objs.size, _, I1, rfl, ⟨_, x, y, rfl, fr, rfl, fun l hl => by rw [injM I hl qa]; exact hx, fun l hl => by rw [injM I hl qb]; exact hy⟩, ⟨z2, ?_, ⟨v1, v2, ?_⟩, ?_, ?_⟩, fun c hcm => ?_⟩
    · exact (sb.2 _ D.TIz).trans (hkp _ _ D.TIz D.TITO D.TIi1 D.TIi2 g2)
    · exact (sb.2 _ D.TOz).trans tq'
    · exact c1.1.keep fun o q => (sb.2 _ (Ne.symm D.zi1)).trans q
    · exact c2.1.keep fun o q => (sb.2 _ (Ne.symm D.zi2)).trans q
    · have hlt : c ≠ s.heap.objs.size := by
        have hcm : c = zz ∨ c = ti ∨ c = tq ∨ c = j1 ∨ c = j2 := by simpa using hcm
        rcases hcm with q | q | q | q | q
        · rw [q]; exact Nat.ne_of_lt hzl
        · rw [q]; exact Nat.ne_of_lt (Heap.lt_size g2)
        · rw [q]; exact Nat.ne_of_lt (Heap.lt_size g3)
        · rw [q]
          obtain ⟨_, e1, _⟩ := g4.obj
          exact Nat.ne_of_lt (Heap.lt_size e1)
        · rw [q]
          obtain ⟨_, e2, _⟩ := g5.obj
          exact Nat.ne_of_lt (Heap.lt_size e2)
      rw [upd_ne hlt]
      exact (hf c hcm).1
  done := by
    intro X hP hw hK hc i pins s σ H E I hf st hg
    subst hP hw hK
    obtain ⟨g1, g2, ⟨x0, y0, g3⟩, g4, g5⟩ := st
    obtain ⟨xs, ys, qa, qb, l1, l2, le⟩ := hg
    obtain ⟨its, rv, p, _⟩ := seqM I qa
    obtain ⟨jts, rw', p2, _⟩ := seqM I qb
    have m1 := rv.length
    have m2 := rw'.length
    have hh := I.ok.hd hc
    refine wpAny_pyNext_zipD2_end D (drawsM k (A := X.A.in1) hh j1 a na its.toArray) (drawsM k' (A := X.A.in1) hh j2 b nb jts.toArray) g1 g2 g3 ⟨g4, p⟩ ⟨g5, p2⟩ (by simp; omega) (by simp; omega) (by simp; omega) fun h' tk hkp => ⟨rfl, I.turnedL (t' := tk) (ch := [zz, ti, tq, j1, j2]) (fun c o hb q => ?_) hf⟩
    have hb : c ≠ zz ∧ c ≠ ti ∧ c ≠ tq ∧ c ≠ j1 ∧ c ≠ j2 := by simpa using hb
    exact hkp c o hb.1 hb.2.2.1 hb.2.2.2.1 hb.2.2.2.2 q
  self := fun A i s Q E st h => wpAny_pyIter_zip st.1 h
def iZipM (K : PySem.W.Frag) (ta : TA) : TI := fun σ H R => ta σ H fun vs H1 => ∃ (a b : Addr) (xs ys : List V) (k k' : Bool), vs = [.ref a, .ref b] ∧ SqM K k H1 a xs ∧ SqM K k' H1 b ys ∧ R (ItzM K k k' a b) H1
theorem srcM {prog : Program} {w : World} {k : Bool} {a : Addr} {items : Array Value} {h : Heap} (x : IsM k h a items) : ∃ o Hh, Src prog w a items h o Hh (fun it i h => ItM k h it a i ∧ IsM k h a items) := by
  cases k with
  | true =>
    exact ⟨_, _, begins_tuple a items, x, let ⟨_, e, _⟩ := x; Heap.lt_size e, fun A it hh ne => Draws.tuple hh it a ne items,
      fun it h' e k => ⟨⟨_, e, rfl, rfl⟩, Heap.IsTuple.at x fun u e => k a u e⟩, fun it h' st b hb => by
        obtain ⟨⟨o1, e1, _⟩, ⟨o2, e2, _⟩⟩ := st
        have hb : b = it ∨ b = a := by simpa using hb
        rcases hb with rfl | rfl
        · exact ⟨_, e1⟩
        · exact ⟨_, e2⟩⟩
  | false =>
    exact ⟨_, _, begins_list a items, x, let ⟨_, e, _⟩ := x; Heap.lt_size e, fun A it hh ne => Draws.list hh it a ne items,
      fun it h' e k => ⟨⟨_, e, rfl, rfl⟩, Heap.IsList.at x fun u e => k a u e⟩, fun it h' st b hb => by
        obtain ⟨⟨o1, e1, _⟩, ⟨o2, e2, _⟩⟩ := st
        have hb : b = it ∨ b = a := by simpa using hb
        rcases hb with rfl | rfl
        · exact ⟨_, e1⟩
        · exact ⟨_, e2⟩⟩
theorem pi_zipM {X : Cx} {e e2 : Expr} {ta : TA} {p pos tpos : Pos} {elts : List Expr} {kk : Nat} (hg : Gl X "zip") (hm : X.mg "zip" = none) (ha : PA X [e, e2] ta)
    (hs : starEach [e, e2] X.env = (false, eval e X.env) :: starEach [e2] X.env) (hpl : (backTo pos (starEach [e2] X.env)).any (·.1) = false) :
    PI X (.Tuple elts kk tpos) (.Call (.Name "zip" p) [e, e2] [] pos) (iZipM X.K ta) := by
  refine ⟨fun pins s σ H R I h => ?_⟩
  refine Call_ (ld_blt I hg hm PyProof.Rows.boot_zip (PyProof.Rows.callWith_type1 (thn (ha.run pos pins s σ H _ I h) fun us s1 ⟨vs, H1, I1, r1, q1⟩ => ?_) hs hpl))
  obtain ⟨a, b, xs, ys, k, k', ex, qa, qb, q⟩ := q1
  subst ex
  cases r1 with
  | cons r rr =>
    cases rr with
    | cons r2 rr =>
      cases rr
      cases r
      cases r2
      obtain ⟨its, rv, p1, _⟩ := seqM I1 qa
      obtain ⟨jts, rw', p2, _⟩ := seqM I1 qb
      obtain ⟨o1, G1, X1⟩ := srcM (prog := X.prog) (w := X.w) p1
      obtain ⟨o2, G2, X2⟩ := srcM (prog := X.prog) (w := X.w) p2
      refine zip_begins2 X1.begins X2.begins X1.now X2.now fun h' kz kI kO k1 k2 sz kp => wpAny_pyIter_zip kz ?_
      have la := X1.lt
      have lb := X2.lt
      have I2 : Inv X pins σ H1 { s1 with heap := h' } := I1.kept (t' := s1.toks) kp
      refine ⟨s1.heap.objs.size + 4, [s1.heap.objs.size + 4, s1.heap.objs.size + 2, s1.heap.objs.size + 3, s1.heap.objs.size, s1.heap.objs.size + 1], _, _, H1, rfl, I2, turn_zipM (zip_sep2 (fp1 := [a]) (fp2 := [b]) (fun c hc => by rw [List.mem_singleton.mp hc]; exact la) (fun c hc => by rw [List.mem_singleton.mp hc]; exact lb)) (Nat.ne_of_lt la) (Nat.ne_of_lt (Nat.lt_succ_of_lt lb)), ⟨kz, kI, ⟨_, _, kO⟩, (X1.start _ h' k1 kp).1, (X2.start _ h' k2 kp).1⟩, fun c hcm => ?_, q⟩
      have hle : s1.heap.objs.size ≤ c := by
        have hcm : c = s1.heap.objs.size + 4 ∨ c = s1.heap.objs.size + 2 ∨ c = s1.heap.objs.size + 3 ∨ c = s1.heap.objs.size ∨ c = s1.heap.objs.size + 1 := by simpa using hcm
        rcases hcm with h | h | h | h | h <;> rw [h] <;> first | exact Nat.le_add_right _ _ | exact Nat.le_refl _
      exact I1.fpOk hle (I1.hok.fresh hle)
def mZipM (ms : M (List Vl)) : M (List D) := bd ms fun rs => bd (frzs rs) fun ds => match ds with
  | [x, y] => match seqD x, seqD y with
    | some a, some b => rt (zipD a b)
    | _, _ => fun _ => none
  | _ => fun _ => none
section
variable {K : PySem.W.Frag} {A : Anc}
theorem SqM.same {k : Bool} {H H' : Hp} {a : Addr} {xs : List V} (s : Same H H') (h : SqM K k H a xs) : SqM K k H' a xs := by
  cases k with
  | true => exact sameT s h
  | false => exact sameL s h
theorem wd_zipM {B0 : Hp} {k k' : Bool} {a b : Addr} {xs ys : List V} {ds es : List D} (h : SqM K k B0 a xs) (h' : SqM K k' B0 b ys) (r : Rps K B0 ds xs) (r' : Rps K B0 es ys) : WD K (ItzM K k k' a b) B0 (zipD ds es) := by
  have hl := r.length
  have hl' := r'.length
  have hz : (zipD ds es).length = min xs.length ys.length := by
    unfold zipD
    rw [List.length_zipWith, hl, hl']
  refine ⟨fun i H B hi s1 s2 => ?_, fun H B s1 s2 => ?_, fun i H B x H' hi s1 s2 y => ?_⟩
  · rw [hz] at hi
    have h1 : i < xs.length := by omega
    have h2 : i < ys.length := by omega
    exact ⟨xs, ys, xs[i], ys[i], (h.same s1).same s2, (h'.same s1).same s2, List.getElem?_eq_getElem h1, List.getElem?_eq_getElem h2⟩
  · exact ⟨xs, ys, (h.same s1).same s2, (h'.same s1).same s2, by rw [hz]; omega, by rw [hz]; omega, by rw [hz]; omega⟩
  · obtain ⟨T, u, v, rfl, nT, rfl, f1, f2⟩ := y
    have e1 := f1 _ ((h.same s1).same s2)
    have e2 := f2 _ ((h'.same s1).same s2)
    obtain ⟨d, g1, r1⟩ := r.getV e1
    obtain ⟨e, g2, r2⟩ := r'.getV e2
    refine ⟨.tup [d, e], by rw [zipD_get, g1, g2], .inr ⟨T, [u, v], [d, e], rfl, nT, rfl, rfl, .cons (r1.mono s1) (.cons (r2.mono s1) .nil)⟩⟩
theorem Rp.seqM {B : Hp} {d : D} {v : V} {ds : List D} (h : Rp K B d v) (e : seqD d = some ds) : ∃ a xs k, v = .ref a ∧ SqM K k B a xs ∧ Rps K B ds xs := by
  cases h with
  | tup h r =>
    cases e
    exact ⟨_, _, true, rfl, h.sq, r⟩
  | lst h r =>
    cases e
    exact ⟨_, _, false, rfl, .of h, r⟩
  | _ => cases e
theorem si_zipM {t : TA} {ms : M (List Vl)} (h : SAX K A t ms) : SIX K A (iZipM K t) (mZipM ms) := fun σ τ B H env pe env' ds R S hl e q => by
  obtain ⟨rs, e1, h1, f1⟩ := bd_inv e
  obtain ⟨es, e2, h2, f2⟩ := bd_inv f1
  refine h σ τ B H env pe e1 rs _ S hl h1 fun B1 H1 vs s1 hl1 S1 hr => ?_
  obtain ⟨B2, s2, S2, hl2, rr⟩ := frzs_ok S1 hl1 hr h2
  match es, f2, rr with
  | [x, y], f2, rr =>
    have f2 : (match seqD x, seqD y with | some a, some b => rt (zipD a b) | _, _ => fun _ => none) e2 = some (ds, env') := f2
    cases ha : seqD x with
    | none =>
      rw [ha] at f2
      cases f2
    | some a =>
      cases hb : seqD y with
      | none =>
        rw [ha, hb] at f2
        cases f2
      | some b =>
        rw [ha, hb] at f2
        cases f2
        obtain ⟨u, v, rfl, r1, r2⟩ := rps2 rr
        obtain ⟨p, xs, k, rfl, q1, w1⟩ := Rp.seqM r1 ha
        obtain ⟨p', ys, k', rfl, q2, w2⟩ := Rp.seqM r2 hb
        exact ⟨p, p', xs, ys, k, k', rfl, q1.same S2.same, q2.same S2.same, q B2 H1 _ (s1.trans s2) hl2 S2 (wd_zipM q1 q2 w1 w2)⟩
  | [], f2, _ => cases f2
  | [_], f2, _ => cases f2
  | _ :: _ :: _ :: _, f2, _ => cases f2
end
section
variable {g : G0} {c : Ct} {a b : Expr} {ms : M (List Vl)} {p pos tpos : Pos} {elts : List Expr} {kk : Nat}
theorem ei_zipM (hg : GlC c "zip") (hm : g.mg "zip" = none) (h : EA g c [a, b] ms) (pl : Pl a) (pl2 : Pl b) : EI g c (.Tuple elts kk tpos) (.Call (.Name "zip" p) [a, b] [] pos) (mZipM ms) := by
  obtain ⟨t, h1, h2⟩ := h
  exact ⟨iZipM g.K t, fun X hX => by
    rw [← hX.eK]
    exact pi_zipM (gl_of hX hg) (by rw [hX.em]; exact hm) (h1 X hX) (pl [b] X.env) (by rw [pl2 [] X.env]; rfl), fun A => si_zipM (h2 A)⟩
end
def zipMO : List D → Option (List D)
  | [x, y] => match seqD x, seqD y with
    | some a, some b => some (zipD a b)
    | _, _ => none
  | _ => none
theorem W_mZipM {e : Env} {ms : M (List Vl)} {Q : List D → Env → Prop} : @W _ (mZipM ms) e ⟨Q⟩ = @W _ ms e ⟨fun rs e1 => @W _ (frzs rs) e1 ⟨fun ds e2 => @WO _ (zipMO ds) ⟨fun l => Q l e2⟩⟩⟩ := by
  unfold mZipM
  simp only [W_eq, WO_eq, bd]
  cases ms e with
  | none => rfl
  | some p =>
    dsimp only
    cases frzs p.1 p.2 with
    | none => rfl
    | some w =>
      dsimp only
      unfold zipMO
      match w.1 with
      | [] => rfl
      | [_] => rfl
      | [x, y] =>
        dsimp only
        cases seqD x with
        | none => rfl
        | some a =>
          cases seqD y with
          | none => rfl
          | some b => rfl
      | _ :: _ :: _ :: _ => rfl
theorem zipM_map {α : Type} (c1 c2 : α → D) (l : List α) : zipD (l.map c1) (l.map c2) = l.map fun a => .tup [c1 a, c2 a] := by
  unfold zipD
  induction l with
  | nil => rfl
  | cons a r ih => rw [List.map_cons, List.map_cons, List.zipWith_cons_cons, ih, List.map_cons]
theorem zipMO_lt (a b : List D) : zipMO [.lst a, .tup b] = some (zipD a b) := rfl
theorem zipMO_tl (a b : List D) : zipMO [.tup a, .lst b] = some (zipD a b) := rfl
theorem zipMO_ll (a b : List D) : zipMO [.lst a, .lst b] = some (zipD a b) := rfl
end PD
namespace PD
open PySem PySem.Spec PyProof.Rows L2
/-! ### data held against itself, kind by kind -/
mutual
def D.sz : D → Nat
  | .tup ds => szs ds + 1
  | .lst ds => szs ds + 1
  | _ => 1
def szs : List D → Nat
  | [] => 0
  | d :: ds => d.sz + szs ds
end
mutual
def D.pl : D → Bool
  | .non => true
  | .bl _ => true
  | .int _ => true
  | .str _ => true
  | .tup ds => pls ds
  | .lst ds => pls ds
  | _ => false
def pls : List D → Bool
  | [] => true
  | d :: ds => d.pl && pls ds
end
theorem szs_app : ∀ (a b : List D), szs (a ++ b) = szs a + szs b
  | [], b => by simp [szs]
  | d :: a, b => by rw [List.cons_append, szs, szs, szs_app a b]; omega
theorem pls_all : ∀ {ds : List D}, pls ds = true → ∀ d ∈ ds, d.pl = true
  | [], _, _, h => by simp at h
  | x :: ds, h, d, hd => by
    have h : x.pl = true ∧ pls ds = true := by simpa [pls] using h
    rcases List.mem_cons.mp hd with rfl | hd
    · exact h.1
    · exact pls_all h.2 d hd
theorem pls_of : ∀ {ds : List D}, (∀ d ∈ ds, d.pl = true) → pls ds = true
  | [], _ => rfl
  | x :: ds, h => by
    rw [pls, h x (List.mem_cons_self ..), pls_of fun d hd => h d (List.mem_cons_of_mem _ hd)]
    rfl
theorem szs_le {m : Nat} : ∀ {ds : List D}, (∀ d ∈ ds, d.sz ≤ m) → szs ds ≤ ds.length * m
  | [], _ => by simp [szs]
  | x :: ds, h => by
    have h1 := h x (List.mem_cons_self ..)
    have h2 := szs_le (ds := ds) fun d hd => h d (List.mem_cons_of_mem _ hd)
    rw [szs, List.length_cons, Nat.add_mul, Nat.one_mul]
    omega
theorem sz_pos : ∀ d : D, 1 ≤ d.sz := fun d => by
  cases d <;> simp [D.sz]
theorem len_szs : ∀ ds : List D, ds.length ≤ szs ds
  | [] => Nat.le_refl _
  | d :: ds => by
    have := sz_pos d
    have := len_szs ds
    rw [szs, List.length_cons]
    omega
theorem zip_self (ds : List D) : zipD ds ds = ds.map fun d => .tup [d, d] := by
  unfold zipD
  induction ds with
  | nil => rfl
  | cons d r ih => rw [List.zipWith_cons_cons, ih, List.map_cons]
theorem pop_last (l : List D) (x : D) : popD (.lst (l ++ [x])) [] = some (.lst l, x) := by
  show (match (l ++ [x])[(l ++ [x]).length - 1]? with | some d => some (D.lst (l ++ [x]).dropLast, d) | none => none) = _
  have h : (l ++ [x])[(l ++ [x]).length - 1]? = some x := by simp
  rw [h]
  simp
theorem si1 (ds : List D) : isiD [.lst ds, .tup [.ty "list", .ty "tuple"]] = some (.im (.bl true)) := rfl
theorem si2 (ds : List D) : isiD [.tup ds, .tup [.ty "list", .ty "tuple"]] = some (.im (.bl true)) := rfl
theorem si3 (x : Str) : isiD [.str x, .tup [.ty "list", .ty "tuple"]] = some (.im (.bl false)) := rfl
theorem si4 (i : Int) : isiD [.int i, .tup [.ty "list", .ty "tuple"]] = some (.im (.bl false)) := rfl
theorem si5 (ds : List D) : isiD [.lst ds, .ty "list"] = some (.im (.bl true)) := rfl
theorem si6 (ds : List D) : isiD [.lst ds, .ty "tuple"] = some (.im (.bl false)) := rfl
theorem si7 (ds : List D) : isiD [.tup ds, .ty "list"] = some (.im (.bl false)) := rfl
theorem si8 (ds : List D) : isiD [.tup ds, .ty "tuple"] = some (.im (.bl true)) := rfl
theorem si9 (x : Str) : isiD [.str x, .ty "str"] = some (.im (.bl true)) := rfl
theorem si10 (i : Int) : isiD [.int i, .ty "str"] = some (.im (.bl false)) := rfl
theorem si11 (i : Int) : isiD [.int i, .ty "bool"] = some (.im (.bl false)) := rfl
theorem si12 (i : Int) : isiD [.int i, .ty "int"] = some (.im (.bl true)) := rfl
theorem si13 : isiD [.non, .tup [.ty "list", .ty "tuple"]] = some (.im (.bl false)) := rfl
theorem si14 : isiD [.non, .ty "str"] = some (.im (.bl false)) := rfl
theorem si15 : isiD [.non, .ty "bool"] = some (.im (.bl false)) := rfl
theorem si16 (x : Str) : isiD [.str x, .ty "bool"] = some (.im (.bl false)) := rfl
theorem si17 (b : Bool) : isiD [.bl b, .tup [.ty "list", .ty "tuple"]] = some (.im (.bl false)) := rfl
theorem si18 (b : Bool) : isiD [.bl b, .ty "str"] = some (.im (.bl false)) := rfl
theorem si19 (b : Bool) : isiD [.bl b, .ty "bool"] = some (.im (.bl true)) := rfl
theorem si20 (x : Str) : isiD [.str x, .tup [.ty "str", .ty "bool"]] = some (.im (.bl true)) := rfl
theorem si21 (i : Int) : isiD [.int i, .tup [.ty "str", .ty "bool"]] = some (.im (.bl false)) := rfl
theorem si22 (b : Bool) : isiD [.bl b, .tup [.ty "str", .ty "bool"]] = some (.im (.bl true)) := rfl
theorem sn1 (x : Str) : isD [.str x, .non] = some (.im (.bl false)) := rfl
theorem sn2 (x : Int) : isD [.int x, .non] = some (.im (.bl false)) := rfl
theorem sn3 : isD [.non, .non] = some (.im (.bl true)) := rfl
theorem sn4 (b : Bool) : isD [.bl b, .non] = some (.im (.bl false)) := rfl
theorem neD_non : neD [.non, .non] = some (.im (.bl false)) := neD_refl rfl (by simp [D.py, PyData.canLay0]) (by simp [D.py, PyData.depth])
theorem lz_lst (a b : List D) : listZipD [.lst a, .lst b] = some (.fr (.lst (zipD a b))) := rfl
theorem lz_tup (a b : List D) : listZipD [.tup a, .tup b] = some (.fr (.lst (zipD a b))) := rfl
/-! the rows of a day, of days -/
theorem Rw.pl (r : Rw) : r.d.pl = true := rfl
theorem Rw.sz (r : Rw) : r.d.sz = 8 := rfl
theorem rows_pl (rs : List Rw) : (D.lst (rs.map Rw.d)).pl = true := pls_of fun d hd => by
  obtain ⟨r, _, rfl⟩ := List.mem_map.mp hd
  rfl
theorem rows_sz (rs : List Rw) : (D.lst (rs.map Rw.d)).sz ≤ rs.length * 8 + 1 := by
  have := szs_le (ds := rs.map Rw.d) (m := 8) fun d hd => by
    obtain ⟨r, _, rfl⟩ := List.mem_map.mp hd
    exact Nat.le_refl _
  rw [List.length_map] at this
  show szs _ + 1 ≤ _
  omega
theorem ints_pl (ns : List Int) : (D.tup (ns.map D.int)).pl = true := pls_of fun d hd => by
  obtain ⟨r, _, rfl⟩ := List.mem_map.mp hd
  rfl
theorem ints_sz (ns : List Int) : (D.tup (ns.map D.int)).sz ≤ ns.length + 1 := by
  have := szs_le (ds := ns.map D.int) (m := 1) fun d hd => by
    obtain ⟨r, _, rfl⟩ := List.mem_map.mp hd
    exact Nat.le_refl _
  rw [List.length_map] at this
  show szs _ + 1 ≤ _
  omega
/-! a row by its parts -/
theorem Rw.d_eq {r : Rw} {a b c e f g h : Int} (h1 : a = r.ra) (h2 : b = r.le) (h3 : c = r.ca) (h4 : e = r.rn) (h5 : f = r.so) (h6 : g = r.dr) (h7 : h = r.st) : D.tup [.int a, .int b, .int c, .int e, .int f, .int g, .int h] = r.d := by
  subst h1 h2 h3 h4 h5 h6 h7
  rfl
theorem row_lin {f : Fld} {w ca W : Int} {n : Dn} {r : Rw} (hr : r = rowOf f w n ca) (hW : W = w + n.ra + n.into f.nm + ca) :
    (n.lvl f < W → r.rn = W - n.lvl f) ∧ (W ≤ n.lvl f → r.rn = 0) ∧ (f.so < W - r.rn → r.so = f.so) ∧ (W - r.rn ≤ f.so → r.so = W - r.rn) ∧
    (n.su < W - r.rn - r.so → r.dr = n.su) ∧ (W - r.rn - r.so ≤ n.su → r.dr = W - r.rn - r.so) ∧ r.st = W - r.rn - r.so - r.dr := by
  subst hr
  have e1 : (rowOf f w n ca).rn = W - mn W (n.lvl f) := by rw [hW]; rfl
  have e2 : (rowOf f w n ca).so = mn (mn W (n.lvl f)) f.so := by rw [hW]; rfl
  have e3 : (rowOf f w n ca).dr = mn (mn W (n.lvl f) - mn (mn W (n.lvl f)) f.so) n.su := by rw [hW]; rfl
  have e4 : (rowOf f w n ca).st = mn W (n.lvl f) - mn (mn W (n.lvl f)) f.so - mn (mn W (n.lvl f) - mn (mn W (n.lvl f)) f.so) n.su := by rw [hW]; rfl
  rw [e1, e2, e3, e4]
  generalize n.lvl f = L
  unfold mn
  refine ⟨fun h => ?_, fun h => ?_, fun h => ?_, fun h => ?_, fun h => ?_, fun h => ?_, ?_⟩ <;> (repeat' split at *) <;> omega
theorem lvl_head (n : Dn) (f : Fld) : L2.atI ((n.bs.filter fun b => decide (b.1 = f.nm)).map (fun b => D.int b.2) ++ [D.int f.dy]) 0 = some (.int (n.lvl f)) := by
  unfold Dn.lvl lkB
  induction n.bs with
  | nil => exact at0
  | cons b bs ih =>
    by_cases h : b.1 = f.nm
    · rw [List.filter_cons_of_pos (by simpa using h), List.find?_cons_of_pos (by simpa using h), List.map_cons, List.cons_append, at0]
      rfl
    · rw [List.filter_cons_of_neg (by simpa using h), List.find?_cons_of_neg (by simpa using h)]
      exact ih
theorem nodup_lt : ∀ (n : Nat) (ps : List Nat), ps.Nodup → (∀ p ∈ ps, p < n) → ps.length ≤ n
  | 0, ps, _, h => by
    cases ps with
    | nil => exact Nat.le_refl _
    | cons p r => exact absurd (h p (List.mem_cons_self ..)) (Nat.not_lt_zero _)
  | n + 1, ps, nd, h => by
    have h1 := nodup_lt n (ps.erase n) (nd.erase n) fun p hp => by
      have h2 := h p (List.mem_of_mem_erase hp)
      have h3 : p ≠ n := fun e => by
        rw [e] at hp
        exact absurd hp (nd.not_mem_erase)
      omega
    have h2 := List.length_erase (a := n) (l := ps)
    split at h2 <;> omega
/-! the rows that are known, by places -/
def kvR (rs : List Rw) (j : Nat) : Key × D := (.inl (j : Int), ((rs[j]?).getD zeroR).d)
theorem kvR_get {rs : List Rw} {ps : List Nat} {i : Nat} (h : i ∈ ps) : getK (ps.map (kvR rs)) (.inl (i : Int)) = some ((rs[i]?).getD zeroR).d := by
  induction ps with
  | nil => simp at h
  | cons p r ih =>
    unfold getK at *
    rw [List.map_cons]
    by_cases e : p = i
    · rw [List.find?_cons_of_pos (by simp [kvR, e]), e]
      rfl
    · have e' : ¬ (kvR rs p).1 = .inl (i : Int) := fun z => by
        have z : (p : Int) = i := by simpa [kvR] using z
        omega
      rw [List.find?_cons_of_neg (by simpa using e')]
      rcases List.mem_cons.mp h with h | h
      · exact absurd h.symm e
      · exact ih h
theorem kvR_none {rs : List Rw} {ps : List Nat} {i : Nat} (h : i ∉ ps) : ∀ e ∈ ps.map (kvR rs), e.1 ≠ .inl (i : Int) := fun e he z => by
  obtain ⟨p, hp, rfl⟩ := List.mem_map.mp he
  have z : (p : Int) = i := by simpa [kvR] using z
  have : p = i := by omega
  exact h (this ▸ hp)
end PD
namespace PD
open PySem PySem.Spec PyProof.Rows L2
/-! ### days one behind another -/
def rowsD (rs : List Rw) : D := .lst (rs.map Rw.d)
def playR (fl : List Fld) : List Int → List Dn → List (List Rw)
  | _, [] => []
  | st, n :: ns => dayR fl st n :: playR fl ((dayR fl st n).map Rw.st) ns
/-- what stands behind all -/
def lastSt (fl : List Fld) : List Int → List Dn → List Int
  | st, [] => st
  | st, n :: ns => lastSt fl ((dayR fl st n).map Rw.st) ns
theorem playR_len (fl : List Fld) : ∀ (ns : List Dn) (st : List Int), (playR fl st ns).length = ns.length
  | [], _ => rfl
  | n :: ns, st => by rw [playR, List.length_cons, List.length_cons, playR_len fl ns]
theorem playR_app (fl : List Fld) : ∀ (ns ms : List Dn) (st : List Int), playR fl st (ns ++ ms) = playR fl st ns ++ playR fl (lastSt fl st ns) ms
  | [], _, _ => rfl
  | n :: ns, ms, st => by
    rw [List.cons_append, playR, playR, lastSt, playR_app fl ns ms, List.cons_append]
theorem lastSt_app (fl : List Fld) : ∀ (ns ms : List Dn) (st : List Int), lastSt fl st (ns ++ ms) = lastSt fl (lastSt fl st ns) ms
  | [], _, _ => rfl
  | n :: ns, ms, st => by rw [List.cons_append, lastSt, lastSt, lastSt_app fl ns ms]
theorem lastSt_len {fl : List Fld} : ∀ (ns : List Dn) {st : List Int}, st.length = fl.length → (lastSt fl st ns).length = fl.length
  | [], _, h => h
  | n :: ns, st, h => lastSt_len ns (by rw [List.length_map, dayR_len h])
theorem playR_row {fl : List Fld} : ∀ (ns : List Dn) {st : List Int}, st.length = fl.length → ∀ rs ∈ playR fl st ns, rs.length = fl.length
  | [], _, _, rs, h => by simp [playR] at h
  | n :: ns, st, hst, rs, h => by
    rcases List.mem_cons.mp h with rfl | h
    · exact dayR_len hst
    · exact playR_row ns (by rw [List.length_map, dayR_len hst]) rs h
/-- the last rows' stands -/
theorem lastSt_eq (fl : List Fld) : ∀ (ns : List Dn) (st : List Int), ns ≠ [] → ∃ rs, (playR fl st ns).getLast? = some rs ∧ lastSt fl st ns = rs.map Rw.st
  | [], _, h => absurd rfl h
  | [n], st, _ => ⟨dayR fl st n, rfl, rfl⟩
  | n :: m :: ns, st, _ => by
    obtain ⟨rs, h1, h2⟩ := lastSt_eq fl (m :: ns) ((dayR fl st n).map Rw.st) (by simp)
    refine ⟨rs, ?_, h2⟩
    rw [playR]
    have : playR fl ((dayR fl st n).map Rw.st) (m :: ns) ≠ [] := by rw [playR]; simp
    rw [List.getLast?_cons_of_ne_nil this]
    exact h1
/-! parts of a row -/
theorem Rw_to4 (r : Rw) : slD none (some 4) r.d = some (.im (.tup [.int r.ra, .int r.le, .int r.ca, .int r.rn])) := rfl
theorem Rw_from4 (r : Rw) : slD (some 4) none r.d = some (.im (.tup [.int r.so, .int r.dr, .int r.st])) := rfl
theorem sumT3 (a b c : Int) : sumTD [.tup [.int a, .int b, .int c]] = some (.im (.int (a + (b + c)))) := by
  show some (Vl.im (.int ([a, b, c].sum))) = _
  simp
theorem side2 {α β : Type} : ∀ {xs : List α} {ys : List β}, ys.length = xs.length → ∃ ps : List (α × β), ps.map (·.1) = xs ∧ ps.map (·.2) = ys
  | [], [], _ => ⟨[], rfl, rfl⟩
  | x :: xs, y :: ys, h => by
    obtain ⟨ps, e1, e2⟩ := side2 (xs := xs) (ys := ys) (by simpa using h)
    exact ⟨(x, y) :: ps, by rw [List.map_cons, e1], by rw [List.map_cons, e2]⟩
  | [], _ :: _, h => by simp at h
  | _ :: _, [], h => by simp at h
theorem side2_at {α β : Type} {ps : List (α × β)} {p : α × β} (h : p ∈ ps) : ∃ i : Nat, (ps.map (·.1))[i]? = some p.1 ∧ (ps.map (·.2))[i]? = some p.2 := by
  obtain ⟨i, hi⟩ := List.mem_iff_getElem?.mp h
  exact ⟨i, by rw [List.getElem?_map, hi]; rfl, by rw [List.getElem?_map, hi]; rfl⟩
/-! a quiet day -/
theorem quiet_ok {su : Int} (h0 : 0 ≤ su) (h1 : su ≤ 99) : (⟨0, su, [], []⟩ : Dn).ok :=
  ⟨Int.le_refl 0, (by show (0 : Int) ≤ 99; decide), h0, h1, Nat.zero_le _, fun _ h => by simp at h, Nat.zero_le _, List.nodup_nil, fun _ h => by simp at h⟩
theorem quiet_lvl (su : Int) (f : Fld) : (⟨0, su, [], []⟩ : Dn).lvl f = f.dy := rfl
theorem quiet_into (su : Int) (x : Str) : (⟨0, su, [], []⟩ : Dn).into x = 0 := rfl
/-- a quiet day from stands behind their dykes: nothing runs -/
theorem quiet_still {fl : List Fld} {st : List Int} {su : Int} (ht : TerrOk fl) (hst : st.length = fl.length) (h0 : 0 ≤ su) (h1 : su ≤ 99) (hw : ∀ (i : Nat) (f : Fld) (w : Int), fl[i]? = some f → st[i]? = some w → 0 ≤ w ∧ w ≤ f.dy) :
    ∀ r ∈ dayR fl st ⟨0, su, [], []⟩, r.ra = 0 ∧ r.le = 0 ∧ r.ca = 0 ∧ r.rn = 0 := by
  have hs := dayR_sol (n := ⟨0, su, [], []⟩) ht hst
  generalize dayR fl st ⟨0, su, [], []⟩ = rs at *
  have hn := quiet_ok h0 h1
  have hw0 : ∀ w ∈ st, 0 ≤ w := fun w hw' => by
    obtain ⟨i, hi⟩ := List.mem_iff_getElem?.mp hw'
    obtain ⟨f, hf, _⟩ := at_of (l := fl) (i := i) (by rw [← hst]; exact (List.getElem?_eq_some_iff.mp hi).1)
    exact (hw i f w hf hi).1
  have key := down_ind ht (P := fun i => ∀ r, rs[i]? = some r → r.rn = 0) fun i f hf ih r hr => by
    obtain ⟨w, hwi, _⟩ := at_of (l := st) (i := i) (by rw [hst]; exact (List.getElem?_eq_some_iff.mp hf).1)
    have hF := hs.facts hst ht hn hw0 hf hwi hr
    have hc : cameOf fl rs f.nm = 0 := by
      have e := cameOf_congr (x := f.nm) hs.len (b := rs.map fun _ => zeroR) (by rw [List.length_map, hs.len]) fun j g r s h1 h2 h3 h4 => by
        rw [List.getElem?_map, h2] at h3
        have h3 : zeroR = s := Option.some.inj h3
        rw [ih j g h1 h4 r h2, ← h3]
        rfl
      rw [e]
      have : ∀ (fl : List Fld) (rs : List Rw), cameOf fl (rs.map fun _ => zeroR) f.nm = 0 := by
        intro fl
        induction fl with
        | nil => intro rs; rfl
        | cons g gl ihg =>
          intro rs
          cases rs with
          | nil => rfl
          | cons s rs =>
            rw [List.map_cons, cameOf, ihg rs]
            split <;> rfl
      exact this fl rs
    have h2 := (hw i f w hf hwi).2
    obtain ⟨_, l2, _⟩ := row_lin (hs.row i f w r hf hwi hr) rfl
    refine l2 ?_
    rw [quiet_lvl, quiet_into, hc]
    show w + 0 + 0 + 0 ≤ f.dy
    omega
  intro r hr
  obtain ⟨i, hi⟩ := List.mem_iff_getElem?.mp hr
  have hil : i < fl.length := by rw [← hs.len]; exact (List.getElem?_eq_some_iff.mp hi).1
  obtain ⟨f, hf, _⟩ := at_of hil
  obtain ⟨w, hwi, _⟩ := at_of (l := st) (i := i) (by rw [hst]; exact hil)
  have hF := hs.facts hst ht hn hw0 hf hwi hi
  have h4 := key i hil r hi
  have h2 := (hw i f w hf hwi).2
  have hra : r.ra = 0 := hF.ra
  have hle : r.le = 0 := hF.le
  refine ⟨hra, hle, ?_, h4⟩
  have h5 : cameOf fl rs f.nm = 0 := by
    refine Int.le_antisymm ?_ (by have := hF.ca0; rw [hF.ca] at this; exact this)
    have e := cameOf_rel (x := f.nm) (fl := fl) (a := rs) (b := rs.map fun _ => zeroR) hs.len (by rw [List.length_map, hs.len]) fun j g r s h1 h2 h3 _ => by
      rw [List.getElem?_map, h2] at h3
      have h3 : zeroR = s := Option.some.inj h3
      have := key j (by have := (List.getElem?_eq_some_iff.mp h1).1; exact this) r h2
      rw [this, ← h3]
      exact Int.le_refl _
    have : ∀ (fl : List Fld) (rs : List Rw), cameOf fl (rs.map fun _ => zeroR) f.nm = 0 := by
      intro fl
      induction fl with
      | nil => intro rs; rfl
      | cons g gl ihg =>
        intro rs
        cases rs with
        | nil => rfl
        | cons s rs =>
          rw [List.map_cons, cameOf, ihg rs]
          split <;> rfl
    rw [this fl rs] at e
    exact e
  rw [hF.ca, h5]
end PD
namespace PD
open PySem PySem.Spec PyProof.Rows L2
/-- a slot that holds nothing that may change -/
def Cm (s : Sl) : Prop := s = .em ∨ ∃ d, s = .im d
theorem Cm.em : Cm .em := .inl rfl
theorem Cm.im {d : D} : Cm (.im d) := .inr ⟨d, rfl⟩
theorem Cm.frz {s : Sl} (h : Cm s) : Sl.frz s = s := by
  rcases h with rfl | ⟨d, rfl⟩ <;> rfl
theorem Cm.calm {s : Sl} (h : Cm s) : calmS (some s) = true := by
  rcases h with rfl | ⟨d, rfl⟩ <;> rfl
end PD
namespace L_k16
open PySem PySem.Spec PyProof.Rows L2 PD
def topS (i : Nat) : Stmt := PySem.Challenge.pw_wetfields_k16_stands_above_their_dykes.main.body.getD i (.Pass ⟨0, 0, 0, 0⟩)
abbrev s__law_left : Stmt := topS 11
abbrev s_below_of : Stmt := topS 1
abbrev s_way_down : Stmt := topS 6
abbrev s_lets_into : Stmt := topS 3
abbrev s_bank_of : Stmt := topS 4
abbrev s_field_day : Stmt := topS 5
abbrev s_day_of : Stmt := topS 7
abbrev s__law_same : Stmt := topS 13
abbrev s__law_mix : Stmt := topS 10
abbrev s__law_pick : Stmt := topS 12
abbrev s__law_some_names : Stmt := topS 14
abbrev s__law_terrace : Stmt := topS 15
abbrev s_stand_of : Stmt := topS 8
abbrev s__law_field_row : Stmt := topS 16
abbrev s__law_day : Stmt := topS 17
abbrev s__law_right : Stmt := topS 18
abbrev s_law : Stmt := topS 19
theorem bt_abs : bootBuiltins "abs" = some (.builtin "abs") := by decide +kernel
theorem bt_all : bootBuiltins "all" = some (.builtin "all") := by decide +kernel
theorem bt_any : bootBuiltins "any" = some (.builtin "any") := by decide +kernel
theorem bt_bool : bootBuiltins "bool" = some (.type "bool") := by decide +kernel
theorem bt_dict : bootBuiltins "dict" = some (.type "dict") := by decide +kernel
theorem bt_int : bootBuiltins "int" = some (.type "int") := by decide +kernel
theorem bt_isinstance : bootBuiltins "isinstance" = some (.builtin "isinstance") := by decide +kernel
theorem bt_len : bootBuiltins "len" = some (.builtin "len") := by decide +kernel
theorem bt_list : bootBuiltins "list" = some (.type "list") := by decide +kernel
theorem bt_max : bootBuiltins "max" = some (.builtin "max") := by decide +kernel
theorem bt_min : bootBuiltins "min" = some (.builtin "min") := by decide +kernel
theorem bt_sorted : bootBuiltins "sorted" = some (.builtin "sorted") := by decide +kernel
theorem bt_str : bootBuiltins "str" = some (.type "str") := by decide +kernel
theorem bt_sum : bootBuiltins "sum" = some (.builtin "sum") := by decide +kernel
theorem bt_tuple : bootBuiltins "tuple" = some (.type "tuple") := by decide +kernel
structure Hyp (g : G0) : Prop where
  d__law_left : DefAt g "_law_left" s__law_left ["_law_script"]
  d_below_of : DefAt g "below_of" s_below_of ["terrace", "field"]
  d_way_down : DefAt g "way_down" s_way_down ["terrace"]
  d_lets_into : DefAt g "lets_into" s_lets_into ["doings", "field"]
  d_bank_of : DefAt g "bank_of" s_bank_of ["row", "doings"]
  d_field_day : DefAt g "field_day" s_field_day ["row", "doings", "water", "came"]
  d_day_of : DefAt g "day_of" s_day_of ["terrace", "stand", "doings"]
  d__law_same : DefAt g "_law_same" s__law_same ["_law_found", "_law_due"]
  d__law_mix : DefAt g "_law_mix" s__law_mix ["_law_cell", "_law_k"]
  d__law_pick : DefAt g "_law_pick" s__law_pick ["_law_left_here", "_law_many"]
  d__law_some_names : DefAt g "_law_some_names" s__law_some_names ["_law_left_here", "_law_many"]
  d__law_terrace : DefAt g "_law_terrace" s__law_terrace ["_law_left_here", "_law_big"]
  d_stand_of : DefAt g "stand_of" s_stand_of ["rows"]
  d__law_field_row : DefAt g "_law_field_row" s__law_field_row ["_law_terrace_here", "_law_stand", "_law_doings", "_law_place", "_law_found"]
  d__law_day : DefAt g "_law_day" s__law_day ["_law_terrace_here", "_law_stand", "_law_doings"]
  d__law_right : DefAt g "_law_right" s__law_right ["_law_left_here", "_law_big"]
  z_abs : g.mg "abs" = none
  z_all : g.mg "all" = none
  z_any : g.mg "any" = none
  z_bool : g.mg "bool" = none
  z_dict : g.mg "dict" = none
  z_enumerate : g.mg "enumerate" = none
  z_int : g.mg "int" = none
  z_isinstance : g.mg "isinstance" = none
  z_len : g.mg "len" = none
  z_list : g.mg "list" = none
  z_max : g.mg "max" = none
  z_min : g.mg "min" = none
  z_range : g.mg "range" = none
  z_sorted : g.mg "sorted" = none
  z_str : g.mg "str" = none
  z_sum : g.mg "sum" = none
  z_tuple : g.mg "tuple" = none
  z_zip : g.mg "zip" = none
theorem sc__law_left : FnScope ["_law_script", "_law_first"] ["_law_script"] (defScope s__law_left) := ⟨rfl, rfl, rfl, by decide +kernel, rfl, by decide +kernel, by decide +kernel⟩
def b__law_left : SM := (sSeq (sAsg (eIf (mB (eP gtD (cA (eP lenD (cA (eV 0) cN)) (cA (eC (.int 0)) cN)))) (eP absD (cA (eP ixD (cA (eV 0) (cA (eC (.int 0)) cN))) cN)) (eC (.int 0))) (gN 1))
    (sSeq (sRet (eLst (cA (eP ixD (cA (eLst (cA (eC (.int 0)) (cA (eV 1) cN))) (cA (eP intD (cA (eP geD (cA (eV 1) (cA (eP powD (cA (eC (.int 10)) (cA (eC (.int 18)) cN))) cN))) cN)) cN))) (cA (eIf (mB (eP gtD (cA (eP lenD (cA (eV 0) cN)) (cA (eC (.int 0)) cN)))) (eSl (eV 0) oN (oS (eC (.int 63)))) (eLst (cA (eC (.int 7)) cN))) (cA (eC (.int 0)) cN)))))
    sNil))
def F__law_left : Fs := ⟨runF [false] 2 b__law_left, [false]⟩
theorem sem__law_left (ds : List D) : F__law_left.sem ds = runF [false] 2 b__law_left ds := rfl
theorem sig__law_left : F__law_left.sig = [false] := rfl
theorem fn__law_left {g : G0} (h : Hyp g) : FnI g "_law_left" 1 F__law_left :=
  fn_rule h.d__law_left sc__law_left rfl (es_cons (es_set (i := 1) rfl (by first | exact .inl rfl | exact .inr rfl) (ee_if (et_cmp op_gtD (ee_callB ca_len rfl h.z_len bt_len (ea_cons (ee_var (i := 0) rfl (by first | exact .inl rfl | exact .inr (.inl rfl) | exact .inr (.inr rfl)) (by decide) (by decide)) ea_nil (fun _ _ => rfl)) (fun _ _ => rfl) (fun _ => rfl) (by decide) (by decide)) ee_int rfl) (ee_callB ca_abs rfl h.z_abs bt_abs (ea_cons (ee_ix (ee_var (i := 0) rfl (by first | exact .inl rfl | exact .inr (.inl rfl) | exact .inr (.inr rfl)) (by decide) (by decide)) ee_int (fun _ _ => rfl)) ea_nil (fun _ _ => rfl)) (fun _ _ => rfl) (fun _ => rfl) (by decide) (by decide)) ee_int) (fun _ => rfl) (.inl rfl))
    (es_cons (es_ret (ee_lst (ea_cons (ee_ix (ee_lst (ea_cons ee_int (ea_cons (ee_var (i := 1) rfl (by first | exact .inl rfl | exact .inr (.inl rfl) | exact .inr (.inr rfl)) (by decide) (by decide)) ea_nil (fun _ _ => rfl)) (fun _ _ => rfl))) (ee_callTy ca_int rfl h.z_int bt_int (ea_cons (ee_cmp op_geD (ee_var (i := 1) rfl (by first | exact .inl rfl | exact .inr (.inl rfl) | exact .inr (.inr rfl)) (by decide) (by decide)) (ee_bin op_powD ee_int ee_int) rfl) ea_nil (fun _ _ => rfl)) (fun _ _ => rfl) (fun _ => rfl) (by decide) (by decide)) (fun _ _ => rfl)) (ea_cons (ee_if (et_cmp op_gtD (ee_callB ca_len rfl h.z_len bt_len (ea_cons (ee_var (i := 0) rfl (by first | exact .inl rfl | exact .inr (.inl rfl) | exact .inr (.inr rfl)) (by decide) (by decide)) ea_nil (fun _ _ => rfl)) (fun _ _ => rfl) (fun _ => rfl) (by decide) (by decide)) ee_int rfl) (ee_sl (ee_var (i := 0) rfl (by first | exact .inl rfl | exact .inr (.inl rfl) | exact .inr (.inr rfl)) (by decide) (by decide)) eo_none (eo_some ee_int)) (ee_lst (ea_cons ee_int ea_nil (fun _ _ => rfl)))) (ea_cons ee_int ea_nil (fun _ _ => rfl)) (fun _ _ => rfl)) (fun _ _ => rfl))))
    es_nil))
theorem sc_below_of : FnScope ["terrace", "field", "below", "found", "here", "row"] ["terrace", "field"] (defScope s_below_of) := ⟨rfl, rfl, rfl, by decide +kernel, rfl, by decide +kernel, by decide +kernel⟩
def wc_below_of_1 : M Bool := (mB (eP neD (cA (eV 4) (cA (eC (.str "")) cN))))
def wb_below_of_1 : SM := (sSeq (sExp (eU "list" appendD (eV 3) (cA (eV 4) cN)))
    (sSeq (sAsg (eP ixD (cA (eV 2) (cA (eV 4) cN))) (gN 4))
    sNil))
def wl_below_of_1 : SM := sWhl 100 wc_below_of_1 wb_below_of_1
def ce_below_of_2 : M Vl := (eTup (cA (eP ixD (cA (eV 5) (cA (eC (.int 0)) cN))) (cA (eP ixD (cA (eV 5) (cA (eC (.int 2)) cN))) cN)))
def cp_below_of_2 : M Vl := eComp [5] (mTup (eP ixD (cA (eV 0) (cA (eC (.int 0)) cN)))) (gN 5) (rt true) ce_below_of_2
def b_below_of : SM := (sSeq (sAsg (eP dictD (cA cp_below_of_2 cN)) (gN 2))
    (sSeq (sAsg (eLst cN) (gN 3))
    (sSeq (sAsg (eP ixD (cA (eV 2) (cA (eV 1) cN))) (gN 4))
    (sSeq wl_below_of_1
    (sSeq (sRet (eV 3))
    sNil)))))
def F_below_of : Fs := ⟨runF [false, false] 6 b_below_of, [false, false]⟩
theorem sem_below_of (ds : List D) : F_below_of.sem ds = runF [false, false] 6 b_below_of ds := rfl
theorem sig_below_of : F_below_of.sig = [false, false] := rfl
theorem fn_below_of {g : G0} (h : Hyp g) : FnI g "below_of" 1 F_below_of :=
  fn_rule h.d_below_of sc_below_of rfl (es_cons (es_set (i := 2) rfl (by first | exact .inl rfl | exact .inr rfl) (ee_callTy ca_dict rfl h.z_dict bt_dict (ea_cons (ee_comp (own := [("row", 5)]) (by first | decide +kernel | (dsimp only; decide +kernel) | rfl) (by decide) (by decide) (ei_tup (ee_ix (ee_var (i := 0) rfl (by first | exact .inl rfl | exact .inr (.inl rfl) | exact .inr (.inr rfl)) (by decide) (by decide)) ee_int (fun _ _ => rfl))) (eg_name (i := 5) rfl (by first | exact .inl rfl | exact .inr rfl) (by first | exact .inl rfl | exact .inr rfl)) ep_nil (ee_tup (ea_cons (ee_ix (ee_var (i := 5) rfl (by first | exact .inl rfl | exact .inr (.inl rfl) | exact .inr (.inr rfl)) (by decide) (by decide)) ee_int (fun _ _ => rfl)) (ea_cons (ee_ix (ee_var (i := 5) rfl (by first | exact .inl rfl | exact .inr (.inl rfl) | exact .inr (.inr rfl)) (by decide) (by decide)) ee_int (fun _ _ => rfl)) ea_nil (fun _ _ => rfl)) (fun _ _ => rfl))) (fun _ _ => rfl)) ea_nil (fun _ _ => rfl)) (fun _ _ => rfl) (fun _ => rfl) (by decide) (by decide)) (fun _ => rfl) (.inl rfl))
    (es_cons (es_set (i := 3) rfl (by first | exact .inl rfl | exact .inr rfl) (ee_lst ea_nil) (fun _ => rfl) (.inl rfl))
    (es_cons (es_set (i := 4) rfl (by first | exact .inl rfl | exact .inr rfl) (ee_ix (ee_var (i := 2) rfl (by first | exact .inl rfl | exact .inr (.inl rfl) | exact .inr (.inr rfl)) (by decide) (by decide)) (ee_var (i := 1) rfl (by first | exact .inl rfl | exact .inr (.inl rfl) | exact .inr (.inr rfl)) (by decide) (by decide)) (fun _ _ => rfl)) (fun _ => rfl) (.inl rfl))
    (es_cons (es_whl 100 (et_cmp op_neD' (ee_var (i := 4) rfl (by first | exact .inl rfl | exact .inr (.inl rfl) | exact .inr (.inr rfl)) (by decide) (by decide)) (ee_str (by decide +kernel)) rfl) (es_cons (es_exp (ee_mut mu_append (ee_var (i := 3) rfl (by first | exact .inl rfl | exact .inr (.inl rfl) | exact .inr (.inr rfl)) (by decide) (by decide)) (ea_cons (ee_var (i := 4) rfl (by first | exact .inl rfl | exact .inr (.inl rfl) | exact .inr (.inr rfl)) (by decide) (by decide)) ea_nil (fun _ _ => rfl)) (fun _ _ => rfl) (fun _ => rfl) (fun _ => rfl) rfl (fun _ => rfl)) (fun _ => rfl))
    (es_cons (es_set (i := 4) rfl (by first | exact .inl rfl | exact .inr rfl) (ee_ix (ee_var (i := 2) rfl (by first | exact .inl rfl | exact .inr (.inl rfl) | exact .inr (.inr rfl)) (by decide) (by decide)) (ee_var (i := 4) rfl (by first | exact .inl rfl | exact .inr (.inl rfl) | exact .inr (.inr rfl)) (by decide) (by decide)) (fun _ _ => rfl)) (fun _ => rfl) (.inl rfl))
    es_nil)))
    (es_cons (es_ret (ee_var (i := 3) rfl (by first | exact .inl rfl | exact .inr (.inl rfl) | exact .inr (.inr rfl)) (by decide) (by decide)))
    es_nil)))))
theorem sc_way_down : FnScope ["terrace", "many", "name", "row"] ["terrace"] (defScope s_way_down) := ⟨rfl, rfl, rfl, by decide +kernel, rfl, by decide +kernel, by decide +kernel⟩
def ce_way_down_1 : M Vl := (eTup (cA (eP negD (cA (eP lenD (cA (eCallF F_below_of (cA (eV 0) (cA (eP ixD (cA (eV 3) (cA (eC (.int 0)) cN))) cN))) cN)) cN)) (cA (eP ixD (cA (eV 3) (cA (eC (.int 0)) cN))) cN)))
def cp_way_down_1 : M Vl := eComp [3] (mTup (eP ixD (cA (eV 0) (cA (eC (.int 0)) cN)))) (gN 3) (rt true) ce_way_down_1
def ce_way_down_2 : M Vl := (eV 2)
def cp_way_down_2 : M Vl := eComp [1, 2] (mLst (eP sortedD (cA cp_way_down_1 cN))) (gT 2 (gsC (gN 1) (gsC (gN 2) gsN))) (rt true) ce_way_down_2
def b_way_down : SM := (sSeq (sRet cp_way_down_2)
    sNil)
def F_way_down : Fs := ⟨runF [false] 4 b_way_down, [false]⟩
theorem sem_way_down (ds : List D) : F_way_down.sem ds = runF [false] 4 b_way_down ds := rfl
theorem sig_way_down : F_way_down.sig = [false] := rfl
theorem fn_way_down {g : G0} (h : Hyp g) : FnI g "way_down" 2 F_way_down :=
  fn_rule h.d_way_down sc_way_down rfl (es_cons (es_ret (ee_comp (own := [("many", 1), ("name", 2)]) (by first | decide +kernel | (dsimp only; decide +kernel) | rfl) (by decide) (by decide) (ei_list (ee_callB ca_sorted rfl h.z_sorted bt_sorted (ea_cons (ee_comp (own := [("row", 3)]) (by first | decide +kernel | (dsimp only; decide +kernel) | rfl) (by decide) (by decide) (ei_tup (ee_ix (ee_var (i := 0) rfl (by first | exact .inl rfl | exact .inr (.inl rfl) | exact .inr (.inr rfl)) (by decide) (by decide)) ee_int (fun _ _ => rfl))) (eg_name (i := 3) rfl (by first | exact .inl rfl | exact .inr rfl) (by first | exact .inl rfl | exact .inr rfl)) ep_nil (ee_tup (ea_cons (ee_un un_negD (ee_callB ca_len rfl h.z_len bt_len (ea_cons (ee_callF (fn_below_of h) (by decide) rfl (ea_cons (ee_var (i := 0) rfl (by first | exact .inl rfl | exact .inr (.inl rfl) | exact .inr (.inr rfl)) (by decide) (by decide)) (ea_cons (ee_ix (ee_var (i := 3) rfl (by first | exact .inl rfl | exact .inr (.inl rfl) | exact .inr (.inr rfl)) (by decide) (by decide)) ee_int (fun _ _ => rfl)) ea_nil (fun _ _ => rfl)) (fun _ _ => rfl)) (fun _ _ => rfl) (fun _ => rfl) (by decide)) ea_nil (fun _ _ => rfl)) (fun _ _ => rfl) (fun _ => rfl) (by decide) (by decide))) (ea_cons (ee_ix (ee_var (i := 3) rfl (by first | exact .inl rfl | exact .inr (.inl rfl) | exact .inr (.inr rfl)) (by decide) (by decide)) ee_int (fun _ _ => rfl)) ea_nil (fun _ _ => rfl)) (fun _ _ => rfl))) (fun _ _ => rfl)) ea_nil (fun _ _ => rfl)) (fun _ _ => rfl) (fun _ => rfl) (by decide) (by decide))) (eg_tup (egs_cons (eg_name (i := 1) rfl (by first | exact .inl rfl | exact .inr rfl) (by first | exact .inl rfl | exact .inr rfl)) (egs_cons (eg_name (i := 2) rfl (by first | exact .inl rfl | exact .inr rfl) (by first | exact .inl rfl | exact .inr rfl)) egs_nil (fun _ => rfl)) (fun _ => rfl)) (fun _ => rfl) (fun _ => rfl)) ep_nil (ee_var (i := 2) rfl (by first | exact .inl rfl | exact .inr (.inl rfl) | exact .inr (.inr rfl)) (by decide) (by decide)) (fun _ _ => rfl)))
    es_nil)
theorem sc_lets_into : FnScope ["doings", "field", "gate", "other", "many"] ["doings", "field"] (defScope s_lets_into) := ⟨rfl, rfl, rfl, by decide +kernel, rfl, by decide +kernel, by decide +kernel⟩
def ce_lets_into_1 : M Vl := (eV 4)
def cp_lets_into_1 : M Vl := eComp [2, 3, 4] (mTup (eP ixD (cA (eV 0) (cA (eC (.int 2)) cN)))) (gT 3 (gsC (gN 2) (gsC (gN 3) (gsC (gN 4) gsN)))) (mB (eP eqD (cA (eV 3) (cA (eV 1) cN)))) ce_lets_into_1
def b_lets_into : SM := (sSeq (sRet (eP sumD (cA cp_lets_into_1 cN)))
    sNil)
def F_lets_into : Fs := ⟨runF [false, false] 5 b_lets_into, [false, false]⟩
theorem sem_lets_into (ds : List D) : F_lets_into.sem ds = runF [false, false] 5 b_lets_into ds := rfl
theorem sig_lets_into : F_lets_into.sig = [false, false] := rfl
theorem fn_lets_into {g : G0} (h : Hyp g) : FnI g "lets_into" 1 F_lets_into :=
  fn_rule h.d_lets_into sc_lets_into rfl (es_cons (es_ret (ee_callB ca_sum rfl h.z_sum bt_sum (ea_cons (ee_comp (own := [("gate", 2), ("other", 3), ("many", 4)]) (by first | decide +kernel | (dsimp only; decide +kernel) | rfl) (by decide) (by decide) (ei_tup (ee_ix (ee_var (i := 0) rfl (by first | exact .inl rfl | exact .inr (.inl rfl) | exact .inr (.inr rfl)) (by decide) (by decide)) ee_int (fun _ _ => rfl))) (eg_tup (egs_cons (eg_name (i := 2) rfl (by first | exact .inl rfl | exact .inr rfl) (by first | exact .inl rfl | exact .inr rfl)) (egs_cons (eg_name (i := 3) rfl (by first | exact .inl rfl | exact .inr rfl) (by first | exact .inl rfl | exact .inr rfl)) (egs_cons (eg_name (i := 4) rfl (by first | exact .inl rfl | exact .inr rfl) (by first | exact .inl rfl | exact .inr rfl)) egs_nil (fun _ => rfl)) (fun _ => rfl)) (fun _ => rfl)) (fun _ => rfl) (fun _ => rfl)) (ep_one (et_cmp op_eqD' (ee_var (i := 3) rfl (by first | exact .inl rfl | exact .inr (.inl rfl) | exact .inr (.inr rfl)) (by decide) (by decide)) (ee_var (i := 1) rfl (by first | exact .inl rfl | exact .inr (.inl rfl) | exact .inr (.inr rfl)) (by decide) (by decide)) rfl)) (ee_var (i := 4) rfl (by first | exact .inl rfl | exact .inr (.inl rfl) | exact .inr (.inr rfl)) (by decide) (by decide)) (fun _ _ => rfl)) ea_nil (fun _ _ => rfl)) (fun _ _ => rfl) (fun _ => rfl) (by decide) (by decide)))
    es_nil)
theorem sc_bank_of : FnScope ["row", "doings"] ["row", "doings"] (defScope s_bank_of) := ⟨rfl, rfl, rfl, by decide +kernel, rfl, by decide +kernel, by decide +kernel⟩
def b_bank_of : SM := (sSeq (sRet (eM "dict" getKD (eP dictBD (cA (eP ixD (cA (eV 1) (cA (eC (.int 3)) cN))) cN)) (cA (eP ixD (cA (eV 0) (cA (eC (.int 0)) cN))) (cA (eP ixD (cA (eV 0) (cA (eC (.int 3)) cN))) cN))))
    sNil)
def F_bank_of : Fs := ⟨runF [false, false] 2 b_bank_of, [false, false]⟩
theorem sem_bank_of (ds : List D) : F_bank_of.sem ds = runF [false, false] 2 b_bank_of ds := rfl
theorem sig_bank_of : F_bank_of.sig = [false, false] := rfl
theorem fn_bank_of {g : G0} (h : Hyp g) : FnI g "bank_of" 1 F_bank_of :=
  fn_rule h.d_bank_of sc_bank_of rfl (es_cons (es_ret (ee_meth me_get (ee_callTy ca_dictB rfl h.z_dict bt_dict (ea_cons (ee_ix (ee_var (i := 1) rfl (by first | exact .inl rfl | exact .inr (.inl rfl) | exact .inr (.inr rfl)) (by decide) (by decide)) ee_int (fun _ _ => rfl)) ea_nil (fun _ _ => rfl)) (fun _ _ => rfl) (fun _ => rfl) (by decide) (by decide)) (ea_cons (ee_ix (ee_var (i := 0) rfl (by first | exact .inl rfl | exact .inr (.inl rfl) | exact .inr (.inr rfl)) (by decide) (by decide)) ee_int (fun _ _ => rfl)) (ea_cons (ee_ix (ee_var (i := 0) rfl (by first | exact .inl rfl | exact .inr (.inl rfl) | exact .inr (.inr rfl)) (by decide) (by decide)) ee_int (fun _ _ => rfl)) ea_nil (fun _ _ => rfl)) (fun _ _ => rfl)) (fun _ _ => rfl) (fun _ => rfl) (fun _ => rfl) rfl (fun _ => rfl)))
    es_nil)
theorem sc_field_day : FnScope ["row", "doings", "water", "came", "let", "full", "left", "soaked", "drunk"] ["row", "doings", "water", "came"] (defScope s_field_day) := ⟨rfl, rfl, rfl, by decide +kernel, rfl, by decide +kernel, by decide +kernel⟩
def b_field_day : SM := (sSeq (sAsg (eCallF F_lets_into (cA (eV 1) (cA (eP ixD (cA (eV 0) (cA (eC (.int 0)) cN))) cN))) (gN 4))
    (sSeq (sAsg (eP addD (cA (eP addD (cA (eP addD (cA (eV 2) (cA (eP ixD (cA (eV 1) (cA (eC (.int 0)) cN))) cN))) (cA (eV 4) cN))) (cA (eV 3) cN))) (gN 5))
    (sSeq (sAsg (eP minD (cA (eV 5) (cA (eCallF F_bank_of (cA (eV 0) (cA (eV 1) cN))) cN))) (gN 6))
    (sSeq (sAsg (eP minD (cA (eV 6) (cA (eP ixD (cA (eV 0) (cA (eC (.int 4)) cN))) cN))) (gN 7))
    (sSeq (sAsg (eP minD (cA (eP subD (cA (eV 6) (cA (eV 7) cN))) (cA (eP ixD (cA (eV 1) (cA (eC (.int 1)) cN))) cN))) (gN 8))
    (sSeq (sRet (eTup (cA (eP ixD (cA (eV 1) (cA (eC (.int 0)) cN))) (cA (eV 4) (cA (eV 3) (cA (eP subD (cA (eV 5) (cA (eV 6) cN))) (cA (eV 7) (cA (eV 8) (cA (eP subD (cA (eP subD (cA (eV 6) (cA (eV 7) cN))) (cA (eV 8) cN))) cN)))))))))
    sNil))))))
def F_field_day : Fs := ⟨runF [false, false, false, false] 9 b_field_day, [false, false, false, false]⟩
theorem sem_field_day (ds : List D) : F_field_day.sem ds = runF [false, false, false, false] 9 b_field_day ds := rfl
theorem sig_field_day : F_field_day.sig = [false, false, false, false] := rfl
theorem fn_field_day {g : G0} (h : Hyp g) : FnI g "field_day" 2 F_field_day :=
  fn_rule h.d_field_day sc_field_day rfl (es_cons (es_set (i := 4) rfl (by first | exact .inl rfl | exact .inr rfl) (ee_callF (fn_lets_into h) (by decide) rfl (ea_cons (ee_var (i := 1) rfl (by first | exact .inl rfl | exact .inr (.inl rfl) | exact .inr (.inr rfl)) (by decide) (by decide)) (ea_cons (ee_ix (ee_var (i := 0) rfl (by first | exact .inl rfl | exact .inr (.inl rfl) | exact .inr (.inr rfl)) (by decide) (by decide)) ee_int (fun _ _ => rfl)) ea_nil (fun _ _ => rfl)) (fun _ _ => rfl)) (fun _ _ => rfl) (fun _ => rfl) (by decide)) (fun _ => rfl) (.inl rfl))
    (es_cons (es_set (i := 5) rfl (by first | exact .inl rfl | exact .inr rfl) (ee_bin op_addD (ee_bin op_addD (ee_bin op_addD (ee_var (i := 2) rfl (by first | exact .inl rfl | exact .inr (.inl rfl) | exact .inr (.inr rfl)) (by decide) (by decide)) (ee_ix (ee_var (i := 1) rfl (by first | exact .inl rfl | exact .inr (.inl rfl) | exact .inr (.inr rfl)) (by decide) (by decide)) ee_int (fun _ _ => rfl))) (ee_var (i := 4) rfl (by first | exact .inl rfl | exact .inr (.inl rfl) | exact .inr (.inr rfl)) (by decide) (by decide))) (ee_var (i := 3) rfl (by first | exact .inl rfl | exact .inr (.inl rfl) | exact .inr (.inr rfl)) (by decide) (by decide))) (fun _ => rfl) (.inl rfl))
    (es_cons (es_set (i := 6) rfl (by first | exact .inl rfl | exact .inr rfl) (ee_callB ca_min rfl h.z_min bt_min (ea_cons (ee_var (i := 5) rfl (by first | exact .inl rfl | exact .inr (.inl rfl) | exact .inr (.inr rfl)) (by decide) (by decide)) (ea_cons (ee_callF (fn_bank_of h) (by decide) rfl (ea_cons (ee_var (i := 0) rfl (by first | exact .inl rfl | exact .inr (.inl rfl) | exact .inr (.inr rfl)) (by decide) (by decide)) (ea_cons (ee_var (i := 1) rfl (by first | exact .inl rfl | exact .inr (.inl rfl) | exact .inr (.inr rfl)) (by decide) (by decide)) ea_nil (fun _ _ => rfl)) (fun _ _ => rfl)) (fun _ _ => rfl) (fun _ => rfl) (by decide)) ea_nil (fun _ _ => rfl)) (fun _ _ => rfl)) (fun _ _ => rfl) (fun _ => rfl) (by decide) (by decide)) (fun _ => rfl) (.inl rfl))
    (es_cons (es_set (i := 7) rfl (by first | exact .inl rfl | exact .inr rfl) (ee_callB ca_min rfl h.z_min bt_min (ea_cons (ee_var (i := 6) rfl (by first | exact .inl rfl | exact .inr (.inl rfl) | exact .inr (.inr rfl)) (by decide) (by decide)) (ea_cons (ee_ix (ee_var (i := 0) rfl (by first | exact .inl rfl | exact .inr (.inl rfl) | exact .inr (.inr rfl)) (by decide) (by decide)) ee_int (fun _ _ => rfl)) ea_nil (fun _ _ => rfl)) (fun _ _ => rfl)) (fun _ _ => rfl) (fun _ => rfl) (by decide) (by decide)) (fun _ => rfl) (.inl rfl))
    (es_cons (es_set (i := 8) rfl (by first | exact .inl rfl | exact .inr rfl) (ee_callB ca_min rfl h.z_min bt_min (ea_cons (ee_bin op_subD (ee_var (i := 6) rfl (by first | exact .inl rfl | exact .inr (.inl rfl) | exact .inr (.inr rfl)) (by decide) (by decide)) (ee_var (i := 7) rfl (by first | exact .inl rfl | exact .inr (.inl rfl) | exact .inr (.inr rfl)) (by decide) (by decide))) (ea_cons (ee_ix (ee_var (i := 1) rfl (by first | exact .inl rfl | exact .inr (.inl rfl) | exact .inr (.inr rfl)) (by decide) (by decide)) ee_int (fun _ _ => rfl)) ea_nil (fun _ _ => rfl)) (fun _ _ => rfl)) (fun _ _ => rfl) (fun _ => rfl) (by decide) (by decide)) (fun _ => rfl) (.inl rfl))
    (es_cons (es_ret (ee_tup (ea_cons (ee_ix (ee_var (i := 1) rfl (by first | exact .inl rfl | exact .inr (.inl rfl) | exact .inr (.inr rfl)) (by decide) (by decide)) ee_int (fun _ _ => rfl)) (ea_cons (ee_var (i := 4) rfl (by first | exact .inl rfl | exact .inr (.inl rfl) | exact .inr (.inr rfl)) (by decide) (by decide)) (ea_cons (ee_var (i := 3) rfl (by first | exact .inl rfl | exact .inr (.inl rfl) | exact .inr (.inr rfl)) (by decide) (by decide)) (ea_cons (ee_bin op_subD (ee_var (i := 5) rfl (by first | exact .inl rfl | exact .inr (.inl rfl) | exact .inr (.inr rfl)) (by decide) (by decide)) (ee_var (i := 6) rfl (by first | exact .inl rfl | exact .inr (.inl rfl) | exact .inr (.inr rfl)) (by decide) (by decide))) (ea_cons (ee_var (i := 7) rfl (by first | exact .inl rfl | exact .inr (.inl rfl) | exact .inr (.inr rfl)) (by decide) (by decide)) (ea_cons (ee_var (i := 8) rfl (by first | exact .inl rfl | exact .inr (.inl rfl) | exact .inr (.inr rfl)) (by decide) (by decide)) (ea_cons (ee_bin op_subD (ee_bin op_subD (ee_var (i := 6) rfl (by first | exact .inl rfl | exact .inr (.inl rfl) | exact .inr (.inr rfl)) (by decide) (by decide)) (ee_var (i := 7) rfl (by first | exact .inl rfl | exact .inr (.inl rfl) | exact .inr (.inr rfl)) (by decide) (by decide))) (ee_var (i := 8) rfl (by first | exact .inl rfl | exact .inr (.inl rfl) | exact .inr (.inr rfl)) (by decide) (by decide))) ea_nil (fun _ _ => rfl)) (fun _ _ => rfl)) (fun _ _ => rfl)) (fun _ _ => rfl)) (fun _ _ => rfl)) (fun _ _ => rfl)) (fun _ _ => rfl))))
    es_nil))))))
theorem sc_day_of : FnScope ["terrace", "stand", "doings", "fields", "water", "came", "found", "name", "below", "row"] ["terrace", "stand", "doings"] (defScope s_day_of) := ⟨rfl, rfl, rfl, by decide +kernel, rfl, by decide +kernel, by decide +kernel⟩
def ce_day_of_1 : M Vl := (eP ixD (cA (eV 6) (cA (eP ixD (cA (eV 9) (cA (eC (.int 0)) cN))) cN)))
def cp_day_of_1 : M Vl := eComp [9] (mTup (eP ixD (cA (eV 0) (cA (eC (.int 0)) cN)))) (gN 9) (rt true) ce_day_of_1
def fb_day_of_2 : SM := (sSeq (sAsg (eCallF F_field_day (cA (eP ixD (cA (eV 3) (cA (eV 7) cN))) (cA (eV 2) (cA (eP ixD (cA (eV 4) (cA (eV 7) cN))) (cA (eM "dict" getKD (eV 5) (cA (eV 7) (cA (eC (.int 0)) cN))) cN))))) (gS setDk (eV 6) (eV 7)))
    (sSeq (sAsg (eP ixD (cA (eP ixD (cA (eV 3) (cA (eV 7) cN))) (cA (eC (.int 2)) cN))) (gN 8))
    (sSeq (sAsg (eP addD (cA (eM "dict" getKD (eV 5) (cA (eV 8) (cA (eC (.int 0)) cN))) (cA (eP ixD (cA (eP ixD (cA (eV 6) (cA (eV 7) cN))) (cA (eC (.int 3)) cN))) cN))) (gS setDk (eV 5) (eV 8)))
    sNil)))
def fl_day_of_2 : SM := sFor (mLst (eCallF F_way_down (cA (eV 0) cN))) (gN 7) fb_day_of_2
def ce_day_of_3 : M Vl := (eP ixD (cA (eV 9) (cA (eC (.int 0)) cN)))
def cp_day_of_3 : M Vl := eComp [9] (mTup (eP ixD (cA (eV 0) (cA (eC (.int 0)) cN)))) (gN 9) (rt true) ce_day_of_3
def ce_day_of_4 : M Vl := (eTup (cA (eP ixD (cA (eV 9) (cA (eC (.int 0)) cN))) (cA (eV 9) cN)))
def cp_day_of_4 : M Vl := eComp [9] (mTup (eP ixD (cA (eV 0) (cA (eC (.int 0)) cN)))) (gN 9) (rt true) ce_day_of_4
def b_day_of : SM := (sSeq (sAsg (eP dictD (cA cp_day_of_4 cN)) (gN 3))
    (sSeq (sAsg (eP dictZipD (cA cp_day_of_3 (cA (eV 1) cN))) (gN 4))
    (sSeq (sAsg eDk (gN 5))
    (sSeq (sAsg eDk (gN 6))
    (sSeq fl_day_of_2
    (sSeq (sRet cp_day_of_1)
    sNil))))))
def F_day_of : Fs := ⟨runF [false, false, false] 10 b_day_of, [false, false, false]⟩
theorem sem_day_of (ds : List D) : F_day_of.sem ds = runF [false, false, false] 10 b_day_of ds := rfl
theorem sig_day_of : F_day_of.sig = [false, false, false] := rfl
theorem fn_day_of {g : G0} (h : Hyp g) : FnI g "day_of" 3 F_day_of :=
  fn_rule h.d_day_of sc_day_of rfl (es_cons (es_set (i := 3) rfl (by first | exact .inl rfl | exact .inr rfl) (ee_callTy ca_dict rfl h.z_dict bt_dict (ea_cons (ee_comp (own := [("row", 9)]) (by first | decide +kernel | (dsimp only; decide +kernel) | rfl) (by decide) (by decide) (ei_tup (ee_ix (ee_var (i := 0) rfl (by first | exact .inl rfl | exact .inr (.inl rfl) | exact .inr (.inr rfl)) (by decide) (by decide)) ee_int (fun _ _ => rfl))) (eg_name (i := 9) rfl (by first | exact .inl rfl | exact .inr rfl) (by first | exact .inl rfl | exact .inr rfl)) ep_nil (ee_tup (ea_cons (ee_ix (ee_var (i := 9) rfl (by first | exact .inl rfl | exact .inr (.inl rfl) | exact .inr (.inr rfl)) (by decide) (by decide)) ee_int (fun _ _ => rfl)) (ea_cons (ee_var (i := 9) rfl (by first | exact .inl rfl | exact .inr (.inl rfl) | exact .inr (.inr rfl)) (by decide) (by decide)) ea_nil (fun _ _ => rfl)) (fun _ _ => rfl))) (fun _ _ => rfl)) ea_nil (fun _ _ => rfl)) (fun _ _ => rfl) (fun _ => rfl) (by decide) (by decide)) (fun _ => rfl) (.inl rfl))
    (es_cons (es_set (i := 4) rfl (by first | exact .inl rfl | exact .inr rfl) (ee_dictZip rfl h.z_dict rfl h.z_zip (ea_cons (ee_comp (own := [("row", 9)]) (by first | decide +kernel | (dsimp only; decide +kernel) | rfl) (by decide) (by decide) (ei_tup (ee_ix (ee_var (i := 0) rfl (by first | exact .inl rfl | exact .inr (.inl rfl) | exact .inr (.inr rfl)) (by decide) (by decide)) ee_int (fun _ _ => rfl))) (eg_name (i := 9) rfl (by first | exact .inl rfl | exact .inr rfl) (by first | exact .inl rfl | exact .inr rfl)) ep_nil (ee_ix (ee_var (i := 9) rfl (by first | exact .inl rfl | exact .inr (.inl rfl) | exact .inr (.inr rfl)) (by decide) (by decide)) ee_int (fun _ _ => rfl)) (fun _ _ => rfl)) (ea_cons (ee_var (i := 1) rfl (by first | exact .inl rfl | exact .inr (.inl rfl) | exact .inr (.inr rfl)) (by decide) (by decide)) ea_nil (fun _ _ => rfl)) (fun _ _ => rfl)) (fun _ _ => rfl) (fun _ _ => rfl)) (fun _ => rfl) (.inl rfl))
    (es_cons (es_set (i := 5) rfl (by first | exact .inl rfl | exact .inr rfl) ee_dk (fun _ => rfl) (.inl rfl))
    (es_cons (es_set (i := 6) rfl (by first | exact .inl rfl | exact .inr rfl) ee_dk (fun _ => rfl) (.inl rfl))
    (es_cons (es_for (ei_list (ee_callF (fn_way_down h) (by decide) rfl (ea_cons (ee_var (i := 0) rfl (by first | exact .inl rfl | exact .inr (.inl rfl) | exact .inr (.inr rfl)) (by decide) (by decide)) ea_nil (fun _ _ => rfl)) (fun _ _ => rfl) (fun _ => rfl) (by decide))) (eg_name (i := 7) rfl (by first | exact .inl rfl | exact .inr rfl) (by first | exact .inl rfl | exact .inr rfl)) (es_cons (es_asg (ee_callF (fn_field_day h) (by decide) rfl (ea_cons (ee_ix (ee_var (i := 3) rfl (by first | exact .inl rfl | exact .inr (.inl rfl) | exact .inr (.inr rfl)) (by decide) (by decide)) (ee_var (i := 7) rfl (by first | exact .inl rfl | exact .inr (.inl rfl) | exact .inr (.inr rfl)) (by decide) (by decide)) (fun _ _ => rfl)) (ea_cons (ee_var (i := 2) rfl (by first | exact .inl rfl | exact .inr (.inl rfl) | exact .inr (.inr rfl)) (by decide) (by decide)) (ea_cons (ee_ix (ee_var (i := 4) rfl (by first | exact .inl rfl | exact .inr (.inl rfl) | exact .inr (.inr rfl)) (by decide) (by decide)) (ee_var (i := 7) rfl (by first | exact .inl rfl | exact .inr (.inl rfl) | exact .inr (.inr rfl)) (by decide) (by decide)) (fun _ _ => rfl)) (ea_cons (ee_meth me_get (ee_var (i := 5) rfl (by first | exact .inl rfl | exact .inr (.inl rfl) | exact .inr (.inr rfl)) (by decide) (by decide)) (ea_cons (ee_var (i := 7) rfl (by first | exact .inl rfl | exact .inr (.inl rfl) | exact .inr (.inr rfl)) (by decide) (by decide)) (ea_cons ee_int ea_nil (fun _ _ => rfl)) (fun _ _ => rfl)) (fun _ _ => rfl) (fun _ => rfl) (fun _ => rfl) rfl (fun _ => rfl)) ea_nil (fun _ _ => rfl)) (fun _ _ => rfl)) (fun _ _ => rfl)) (fun _ _ => rfl)) (fun _ _ => rfl) (fun _ => rfl) (by decide)) (eg_sub se_any (ee_var (i := 6) rfl (by first | exact .inl rfl | exact .inr (.inl rfl) | exact .inr (.inr rfl)) (by decide) (by decide)) (ee_var (i := 7) rfl (by first | exact .inl rfl | exact .inr (.inl rfl) | exact .inr (.inr rfl)) (by decide) (by decide)) (fun _ _ => rfl)) (fun _ => rfl) (fun env he => by cases env; cases he; rfl) (fun _ => rfl))
    (es_cons (es_set (i := 8) rfl (by first | exact .inl rfl | exact .inr rfl) (ee_ix (ee_ix (ee_var (i := 3) rfl (by first | exact .inl rfl | exact .inr (.inl rfl) | exact .inr (.inr rfl)) (by decide) (by decide)) (ee_var (i := 7) rfl (by first | exact .inl rfl | exact .inr (.inl rfl) | exact .inr (.inr rfl)) (by decide) (by decide)) (fun _ _ => rfl)) ee_int (fun _ _ => rfl)) (fun _ => rfl) (.inl rfl))
    (es_cons (es_asg (ee_bin op_addD (ee_meth me_get (ee_var (i := 5) rfl (by first | exact .inl rfl | exact .inr (.inl rfl) | exact .inr (.inr rfl)) (by decide) (by decide)) (ea_cons (ee_var (i := 8) rfl (by first | exact .inl rfl | exact .inr (.inl rfl) | exact .inr (.inr rfl)) (by decide) (by decide)) (ea_cons ee_int ea_nil (fun _ _ => rfl)) (fun _ _ => rfl)) (fun _ _ => rfl) (fun _ => rfl) (fun _ => rfl) rfl (fun _ => rfl)) (ee_ix (ee_ix (ee_var (i := 6) rfl (by first | exact .inl rfl | exact .inr (.inl rfl) | exact .inr (.inr rfl)) (by decide) (by decide)) (ee_var (i := 7) rfl (by first | exact .inl rfl | exact .inr (.inl rfl) | exact .inr (.inr rfl)) (by decide) (by decide)) (fun _ _ => rfl)) ee_int (fun _ _ => rfl))) (eg_sub se_any (ee_var (i := 5) rfl (by first | exact .inl rfl | exact .inr (.inl rfl) | exact .inr (.inr rfl)) (by decide) (by decide)) (ee_var (i := 8) rfl (by first | exact .inl rfl | exact .inr (.inl rfl) | exact .inr (.inr rfl)) (by decide) (by decide)) (fun _ _ => rfl)) (fun _ => rfl) (fun env he => by cases env; cases he; rfl) (fun _ => rfl))
    es_nil))) (fun _ _ => rfl))
    (es_cons (es_ret (ee_comp (own := [("row", 9)]) (by first | decide +kernel | (dsimp only; decide +kernel) | rfl) (by decide) (by decide) (ei_tup (ee_ix (ee_var (i := 0) rfl (by first | exact .inl rfl | exact .inr (.inl rfl) | exact .inr (.inr rfl)) (by decide) (by decide)) ee_int (fun _ _ => rfl))) (eg_name (i := 9) rfl (by first | exact .inl rfl | exact .inr rfl) (by first | exact .inl rfl | exact .inr rfl)) ep_nil (ee_ix (ee_var (i := 6) rfl (by first | exact .inl rfl | exact .inr (.inl rfl) | exact .inr (.inr rfl)) (by decide) (by decide)) (ee_ix (ee_var (i := 9) rfl (by first | exact .inl rfl | exact .inr (.inl rfl) | exact .inr (.inr rfl)) (by decide) (by decide)) ee_int (fun _ _ => rfl)) (fun _ _ => rfl)) (fun _ _ => rfl)))
    es_nil))))))
theorem sc__law_same : FnScope ["_law_found", "_law_due", "_law_pairs", "_law_one", "_law_other"] ["_law_found", "_law_due"] (defScope s__law_same) := ⟨rfl, rfl, rfl, by decide +kernel, rfl, by decide +kernel, by decide +kernel⟩
def wc__law_same_1 : M Bool := (mB (eP gtD (cA (eP lenD (cA (eV 2) cN)) (cA (eC (.int 0)) cN))))
def wb__law_same_1 : SM := (sSeq (sAsg (eU "list" popD (eV 2) cN) (gT 2 (gsC (gN 3) (gsC (gN 4) gsN))))
    (sSeq (sIf (mB (eP isiD (cA (eV 4) (cA (eTup (cA (eC (.ty "list")) (cA (eC (.ty "tuple")) cN))) cN)))) (sSeq (sIf (mOr (mB (eP neD (cA (eP isiD (cA (eV 3) (cA (eC (.ty "list")) cN))) (cA (eP isiD (cA (eV 4) (cA (eC (.ty "list")) cN))) cN)))) (mB (eP neD (cA (eP isiD (cA (eV 3) (cA (eC (.ty "tuple")) cN))) (cA (eP isiD (cA (eV 4) (cA (eC (.ty "tuple")) cN))) cN))))) (sSeq (sRet (eC (.bl false)))
    sNil) sNil)
    (sSeq (sIf (mB (eP neD (cA (eP lenD (cA (eV 3) cN)) (cA (eP lenD (cA (eV 4) cN)) cN)))) (sSeq (sRet (eC (.bl false)))
    sNil) sNil)
    (sSeq (sExp (eU "list" extendD (eV 2) (cA (eP listZipD (cA (eV 3) (cA (eV 4) cN))) cN)))
    sNil))) (sSeq (sIf (mOr (mB (eP isD (cA (eV 4) (cA (eC .non) cN)))) (mB (eP isiD (cA (eV 4) (cA (eTup (cA (eC (.ty "str")) (cA (eC (.ty "bool")) cN))) cN))))) (sSeq (sIf (mOr (mB (eP neD (cA (eP isiD (cA (eV 3) (cA (eC (.ty "str")) cN))) (cA (eP isiD (cA (eV 4) (cA (eC (.ty "str")) cN))) cN)))) (mB (eP neD (cA (eP isiD (cA (eV 3) (cA (eC (.ty "bool")) cN))) (cA (eP isiD (cA (eV 4) (cA (eC (.ty "bool")) cN))) cN))))) (sSeq (sRet (eC (.bl false)))
    sNil) sNil)
    (sSeq (sIf (mB (eP neD (cA (eV 3) (cA (eV 4) cN)))) (sSeq (sRet (eC (.bl false)))
    sNil) sNil)
    sNil)) (sSeq (sIf (mOr (mNot (mB (eP isiD (cA (eV 3) (cA (eC (.ty "int")) cN))))) (mOr (mB (eP isiD (cA (eV 3) (cA (eC (.ty "bool")) cN)))) (mB (eP neD (cA (eV 3) (cA (eV 4) cN)))))) (sSeq (sRet (eC (.bl false)))
    sNil) sNil)
    sNil))
    sNil))
    sNil))
def wl__law_same_1 : SM := sWhl 1000000 wc__law_same_1 wb__law_same_1
def b__law_same : SM := (sSeq (sAsg (eLst (cA (eTup (cA (eV 0) (cA (eV 1) cN))) cN)) (gN 2))
    (sSeq wl__law_same_1
    (sSeq (sRet (eC (.bl true)))
    sNil)))
def F__law_same : Fs := ⟨runF [false, false] 5 b__law_same, [false, false]⟩
theorem sem__law_same (ds : List D) : F__law_same.sem ds = runF [false, false] 5 b__law_same ds := rfl
theorem sig__law_same : F__law_same.sig = [false, false] := rfl
theorem fn__law_same {g : G0} (h : Hyp g) : FnI g "_law_same" 1 F__law_same :=
  fn_rule h.d__law_same sc__law_same rfl (es_cons (es_set (i := 2) rfl (by first | exact .inl rfl | exact .inr rfl) (ee_lst (ea_cons (ee_tup (ea_cons (ee_var (i := 0) rfl (by first | exact .inl rfl | exact .inr (.inl rfl) | exact .inr (.inr rfl)) (by decide) (by decide)) (ea_cons (ee_var (i := 1) rfl (by first | exact .inl rfl | exact .inr (.inl rfl) | exact .inr (.inr rfl)) (by decide) (by decide)) ea_nil (fun _ _ => rfl)) (fun _ _ => rfl))) ea_nil (fun _ _ => rfl))) (fun _ => rfl) (.inl rfl))
    (es_cons (es_whl 1000000 (et_cmp op_gtD (ee_callB ca_len rfl h.z_len bt_len (ea_cons (ee_var (i := 2) rfl (by first | exact .inl rfl | exact .inr (.inl rfl) | exact .inr (.inr rfl)) (by decide) (by decide)) ea_nil (fun _ _ => rfl)) (fun _ _ => rfl) (fun _ => rfl) (by decide) (by decide)) ee_int rfl) (es_cons (es_asg (ee_mut0 mu_pop (ee_var (i := 2) rfl (by first | exact .inl rfl | exact .inr (.inl rfl) | exact .inr (.inr rfl)) (by decide) (by decide)) (fun _ => rfl) rfl) (eg_tup (egs_cons (eg_name (i := 3) rfl (by first | exact .inl rfl | exact .inr rfl) (by first | exact .inl rfl | exact .inr rfl)) (egs_cons (eg_name (i := 4) rfl (by first | exact .inl rfl | exact .inr rfl) (by first | exact .inl rfl | exact .inr rfl)) egs_nil (fun _ => rfl)) (fun _ => rfl)) (fun _ => rfl) (fun _ => rfl)) (fun _ => rfl) (fun env he => by cases env; cases he; rfl) (fun _ => rfl))
    (es_cons (es_if (et_val (ee_callB ca_isi rfl h.z_isinstance bt_isinstance (ea_cons (ee_var (i := 4) rfl (by first | exact .inl rfl | exact .inr (.inl rfl) | exact .inr (.inr rfl)) (by decide) (by decide)) (ea_cons (ee_tup (ea_cons (ee_ty (n := "list") rfl h.z_list bt_list (by decide) (by decide)) (ea_cons (ee_ty (n := "tuple") rfl h.z_tuple bt_tuple (by decide) (by decide)) ea_nil (fun _ _ => rfl)) (fun _ _ => rfl))) ea_nil (fun _ _ => rfl)) (fun _ _ => rfl)) (fun _ _ => rfl) (fun _ => rfl) (by decide) (by decide)) (fun _ _ => rfl)) (es_cons (es_if (et_w (ew_or (et_cmp op_neD' (ee_callB ca_isi rfl h.z_isinstance bt_isinstance (ea_cons (ee_var (i := 3) rfl (by first | exact .inl rfl | exact .inr (.inl rfl) | exact .inr (.inr rfl)) (by decide) (by decide)) (ea_cons (ee_ty (n := "list") rfl h.z_list bt_list (by decide) (by decide)) ea_nil (fun _ _ => rfl)) (fun _ _ => rfl)) (fun _ _ => rfl) (fun _ => rfl) (by decide) (by decide)) (ee_callB ca_isi rfl h.z_isinstance bt_isinstance (ea_cons (ee_var (i := 4) rfl (by first | exact .inl rfl | exact .inr (.inl rfl) | exact .inr (.inr rfl)) (by decide) (by decide)) (ea_cons (ee_ty (n := "list") rfl h.z_list bt_list (by decide) (by decide)) ea_nil (fun _ _ => rfl)) (fun _ _ => rfl)) (fun _ _ => rfl) (fun _ => rfl) (by decide) (by decide)) rfl) (ew_or1 (et_cmp op_neD' (ee_callB ca_isi rfl h.z_isinstance bt_isinstance (ea_cons (ee_var (i := 3) rfl (by first | exact .inl rfl | exact .inr (.inl rfl) | exact .inr (.inr rfl)) (by decide) (by decide)) (ea_cons (ee_ty (n := "tuple") rfl h.z_tuple bt_tuple (by decide) (by decide)) ea_nil (fun _ _ => rfl)) (fun _ _ => rfl)) (fun _ _ => rfl) (fun _ => rfl) (by decide) (by decide)) (ee_callB ca_isi rfl h.z_isinstance bt_isinstance (ea_cons (ee_var (i := 4) rfl (by first | exact .inl rfl | exact .inr (.inl rfl) | exact .inr (.inr rfl)) (by decide) (by decide)) (ea_cons (ee_ty (n := "tuple") rfl h.z_tuple bt_tuple (by decide) (by decide)) ea_nil (fun _ _ => rfl)) (fun _ _ => rfl)) (fun _ _ => rfl) (fun _ => rfl) (by decide) (by decide)) rfl)))) (es_cons (es_ret ee_bl)
    es_nil) es_nil)
    (es_cons (es_if (et_cmp op_neD' (ee_callB ca_len rfl h.z_len bt_len (ea_cons (ee_var (i := 3) rfl (by first | exact .inl rfl | exact .inr (.inl rfl) | exact .inr (.inr rfl)) (by decide) (by decide)) ea_nil (fun _ _ => rfl)) (fun _ _ => rfl) (fun _ => rfl) (by decide) (by decide)) (ee_callB ca_len rfl h.z_len bt_len (ea_cons (ee_var (i := 4) rfl (by first | exact .inl rfl | exact .inr (.inl rfl) | exact .inr (.inr rfl)) (by decide) (by decide)) ea_nil (fun _ _ => rfl)) (fun _ _ => rfl) (fun _ => rfl) (by decide) (by decide)) rfl) (es_cons (es_ret ee_bl)
    es_nil) es_nil)
    (es_cons (es_exp (ee_mut mu_extend (ee_var (i := 2) rfl (by first | exact .inl rfl | exact .inr (.inl rfl) | exact .inr (.inr rfl)) (by decide) (by decide)) (ea_cons (ee_listZip rfl h.z_list rfl h.z_zip (ea_cons (ee_var (i := 3) rfl (by first | exact .inl rfl | exact .inr (.inl rfl) | exact .inr (.inr rfl)) (by decide) (by decide)) (ea_cons (ee_var (i := 4) rfl (by first | exact .inl rfl | exact .inr (.inl rfl) | exact .inr (.inr rfl)) (by decide) (by decide)) ea_nil (fun _ _ => rfl)) (fun _ _ => rfl)) (fun _ _ => rfl) (fun _ _ => rfl)) ea_nil (fun _ _ => rfl)) (fun _ _ => rfl) (fun _ => rfl) (fun _ => rfl) rfl (fun _ => rfl)) (fun _ => rfl))
    es_nil))) (es_cons (es_if (et_w (ew_or (et_cmp op_isD (ee_var (i := 4) rfl (by first | exact .inl rfl | exact .inr (.inl rfl) | exact .inr (.inr rfl)) (by decide) (by decide)) ee_non rfl) (ew_or1 (et_val (ee_callB ca_isi rfl h.z_isinstance bt_isinstance (ea_cons (ee_var (i := 4) rfl (by first | exact .inl rfl | exact .inr (.inl rfl) | exact .inr (.inr rfl)) (by decide) (by decide)) (ea_cons (ee_tup (ea_cons (ee_ty (n := "str") rfl h.z_str bt_str (by decide) (by decide)) (ea_cons (ee_ty (n := "bool") rfl h.z_bool bt_bool (by decide) (by decide)) ea_nil (fun _ _ => rfl)) (fun _ _ => rfl))) ea_nil (fun _ _ => rfl)) (fun _ _ => rfl)) (fun _ _ => rfl) (fun _ => rfl) (by decide) (by decide)) (fun _ _ => rfl))))) (es_cons (es_if (et_w (ew_or (et_cmp op_neD' (ee_callB ca_isi rfl h.z_isinstance bt_isinstance (ea_cons (ee_var (i := 3) rfl (by first | exact .inl rfl | exact .inr (.inl rfl) | exact .inr (.inr rfl)) (by decide) (by decide)) (ea_cons (ee_ty (n := "str") rfl h.z_str bt_str (by decide) (by decide)) ea_nil (fun _ _ => rfl)) (fun _ _ => rfl)) (fun _ _ => rfl) (fun _ => rfl) (by decide) (by decide)) (ee_callB ca_isi rfl h.z_isinstance bt_isinstance (ea_cons (ee_var (i := 4) rfl (by first | exact .inl rfl | exact .inr (.inl rfl) | exact .inr (.inr rfl)) (by decide) (by decide)) (ea_cons (ee_ty (n := "str") rfl h.z_str bt_str (by decide) (by decide)) ea_nil (fun _ _ => rfl)) (fun _ _ => rfl)) (fun _ _ => rfl) (fun _ => rfl) (by decide) (by decide)) rfl) (ew_or1 (et_cmp op_neD' (ee_callB ca_isi rfl h.z_isinstance bt_isinstance (ea_cons (ee_var (i := 3) rfl (by first | exact .inl rfl | exact .inr (.inl rfl) | exact .inr (.inr rfl)) (by decide) (by decide)) (ea_cons (ee_ty (n := "bool") rfl h.z_bool bt_bool (by decide) (by decide)) ea_nil (fun _ _ => rfl)) (fun _ _ => rfl)) (fun _ _ => rfl) (fun _ => rfl) (by decide) (by decide)) (ee_callB ca_isi rfl h.z_isinstance bt_isinstance (ea_cons (ee_var (i := 4) rfl (by first | exact .inl rfl | exact .inr (.inl rfl) | exact .inr (.inr rfl)) (by decide) (by decide)) (ea_cons (ee_ty (n := "bool") rfl h.z_bool bt_bool (by decide) (by decide)) ea_nil (fun _ _ => rfl)) (fun _ _ => rfl)) (fun _ _ => rfl) (fun _ => rfl) (by decide) (by decide)) rfl)))) (es_cons (es_ret ee_bl)
    es_nil) es_nil)
    (es_cons (es_if (et_cmp op_neD' (ee_var (i := 3) rfl (by first | exact .inl rfl | exact .inr (.inl rfl) | exact .inr (.inr rfl)) (by decide) (by decide)) (ee_var (i := 4) rfl (by first | exact .inl rfl | exact .inr (.inl rfl) | exact .inr (.inr rfl)) (by decide) (by decide)) rfl) (es_cons (es_ret ee_bl)
    es_nil) es_nil)
    es_nil)) (es_cons (es_if (et_w (ew_or (et_not (et_val (ee_callB ca_isi rfl h.z_isinstance bt_isinstance (ea_cons (ee_var (i := 3) rfl (by first | exact .inl rfl | exact .inr (.inl rfl) | exact .inr (.inr rfl)) (by decide) (by decide)) (ea_cons (ee_ty (n := "int") rfl h.z_int bt_int (by decide) (by decide)) ea_nil (fun _ _ => rfl)) (fun _ _ => rfl)) (fun _ _ => rfl) (fun _ => rfl) (by decide) (by decide)) (fun _ _ => rfl))) (ew_or (et_val (ee_callB ca_isi rfl h.z_isinstance bt_isinstance (ea_cons (ee_var (i := 3) rfl (by first | exact .inl rfl | exact .inr (.inl rfl) | exact .inr (.inr rfl)) (by decide) (by decide)) (ea_cons (ee_ty (n := "bool") rfl h.z_bool bt_bool (by decide) (by decide)) ea_nil (fun _ _ => rfl)) (fun _ _ => rfl)) (fun _ _ => rfl) (fun _ => rfl) (by decide) (by decide)) (fun _ _ => rfl)) (ew_or1 (et_cmp op_neD' (ee_var (i := 3) rfl (by first | exact .inl rfl | exact .inr (.inl rfl) | exact .inr (.inr rfl)) (by decide) (by decide)) (ee_var (i := 4) rfl (by first | exact .inl rfl | exact .inr (.inl rfl) | exact .inr (.inr rfl)) (by decide) (by decide)) rfl))))) (es_cons (es_ret ee_bl)
    es_nil) es_nil)
    es_nil))
    es_nil))
    es_nil)))
    (es_cons (es_ret ee_bl)
    es_nil)))
theorem sc__law_mix : FnScope ["_law_cell", "_law_k", "_law_m"] ["_law_cell", "_law_k"] (defScope s__law_mix) := ⟨rfl, rfl, rfl, by decide +kernel, rfl, by decide +kernel, by decide +kernel⟩
def b__law_mix : SM := (sSeq (sAsg (eP modD (cA (eP mulD (cA (eP addD (cA (eP addD (cA (eP modD (cA (eV 0) (cA (eC (.int 2147483629)) cN))) (cA (eP mulD (cA (eP mulD (cA (eV 1) (cA (eV 1) cN))) (cA (eC (.int 7919)) cN))) cN))) (cA (eC (.int 11)) cN))) (cA (eC (.int 48271)) cN))) (cA (eC (.int 2147483647)) cN))) (gN 2))
    (sSeq (sRet (eP modD (cA (eP mulD (cA (eV 2) (cA (eV 2) cN))) (cA (eC (.int 1999999973)) cN))))
    sNil))
def F__law_mix : Fs := ⟨runF [false, false] 3 b__law_mix, [false, false]⟩
theorem sem__law_mix (ds : List D) : F__law_mix.sem ds = runF [false, false] 3 b__law_mix ds := rfl
theorem sig__law_mix : F__law_mix.sig = [false, false] := rfl
theorem fn__law_mix {g : G0} (h : Hyp g) : FnI g "_law_mix" 1 F__law_mix :=
  fn_rule h.d__law_mix sc__law_mix rfl (es_cons (es_set (i := 2) rfl (by first | exact .inl rfl | exact .inr rfl) (ee_bin op_modD (ee_bin op_mulD (ee_bin op_addD (ee_bin op_addD (ee_bin op_modD (ee_var (i := 0) rfl (by first | exact .inl rfl | exact .inr (.inl rfl) | exact .inr (.inr rfl)) (by decide) (by decide)) ee_int) (ee_bin op_mulD (ee_bin op_mulD (ee_var (i := 1) rfl (by first | exact .inl rfl | exact .inr (.inl rfl) | exact .inr (.inr rfl)) (by decide) (by decide)) (ee_var (i := 1) rfl (by first | exact .inl rfl | exact .inr (.inl rfl) | exact .inr (.inr rfl)) (by decide) (by decide))) ee_int)) ee_int) ee_int) ee_int) (fun _ => rfl) (.inl rfl))
    (es_cons (es_ret (ee_bin op_modD (ee_bin op_mulD (ee_var (i := 2) rfl (by first | exact .inl rfl | exact .inr (.inl rfl) | exact .inr (.inr rfl)) (by decide) (by decide)) (ee_var (i := 2) rfl (by first | exact .inl rfl | exact .inr (.inl rfl) | exact .inr (.inr rfl)) (by decide) (by decide))) ee_int))
    es_nil))
theorem sc__law_pick : FnScope ["_law_left_here", "_law_many", "_law_cells", "_law_cell", "_law_value"] ["_law_left_here", "_law_many"] (defScope s__law_pick) := ⟨rfl, rfl, rfl, by decide +kernel, rfl, by decide +kernel, by decide +kernel⟩
def b__law_pick : SM := (sSeq (sAsg (eP addD (cA (eP ixD (cA (eV 0) (cA (eC (.int 2)) cN))) (cA (eC (.int 1)) cN))) (gS setDk (eV 0) (eC (.int 2))))
    (sSeq (sIf (mB (eP gtD (cA (eP ixD (cA (eV 0) (cA (eC (.int 0)) cN))) (cA (eC (.int 0)) cN)))) (sSeq (sAsg (eP modD (cA (eP ixD (cA (eV 0) (cA (eC (.int 0)) cN))) (cA (eV 1) cN))) (gN 4))
    (sSeq (sAsg (eP divD (cA (eP ixD (cA (eV 0) (cA (eC (.int 0)) cN))) (cA (eV 1) cN))) (gS setDk (eV 0) (eC (.int 0))))
    (sSeq (sRet (eV 4))
    sNil))) sNil)
    (sSeq (sAsg (eP ixD (cA (eV 0) (cA (eC (.int 1)) cN))) (gN 2))
    (sSeq (sAsg (eP addD (cA (eP ixD (cA (eV 2) (cA (eP modD (cA (eP ixD (cA (eV 0) (cA (eC (.int 2)) cN))) (cA (eP lenD (cA (eV 2) cN)) cN))) cN))) (cA (eP mulD (cA (eC (.int 1000003)) (cA (eP divD (cA (eP ixD (cA (eV 0) (cA (eC (.int 2)) cN))) (cA (eP lenD (cA (eV 2) cN)) cN))) cN))) cN))) (gN 3))
    (sSeq (sRet (eP modD (cA (eP divD (cA (eCallF F__law_mix (cA (eCallF F__law_mix (cA (eV 3) (cA (eP ixD (cA (eV 0) (cA (eC (.int 2)) cN))) cN))) (cA (eP addD (cA (eP ixD (cA (eV 0) (cA (eC (.int 2)) cN))) (cA (eC (.int 64)) cN))) cN))) (cA (eC (.int 64)) cN))) (cA (eV 1) cN))))
    sNil)))))
def F__law_pick : Fs := ⟨runF [true, false] 5 b__law_pick, [true, false]⟩
theorem sem__law_pick (ds : List D) : F__law_pick.sem ds = runF [true, false] 5 b__law_pick ds := rfl
theorem sig__law_pick : F__law_pick.sig = [true, false] := rfl
theorem fn__law_pick {g : G0} (h : Hyp g) : FnI g "_law_pick" 2 F__law_pick :=
  fn_rule h.d__law_pick sc__law_pick rfl (es_cons (es_asg (ee_bin op_addD (ee_ix (ee_var (i := 0) rfl (by first | exact .inl rfl | exact .inr (.inl rfl) | exact .inr (.inr rfl)) (by decide) (by decide)) ee_int (fun _ _ => rfl)) ee_int) (eg_sub se_any (ee_var (i := 0) rfl (by first | exact .inl rfl | exact .inr (.inl rfl) | exact .inr (.inr rfl)) (by decide) (by decide)) ee_int (fun _ _ => rfl)) (fun _ => rfl) (fun env he => by cases env; cases he; rfl) (fun _ => rfl))
    (es_cons (es_if (et_cmp op_gtD (ee_ix (ee_var (i := 0) rfl (by first | exact .inl rfl | exact .inr (.inl rfl) | exact .inr (.inr rfl)) (by decide) (by decide)) ee_int (fun _ _ => rfl)) ee_int rfl) (es_cons (es_set (i := 4) rfl (by first | exact .inl rfl | exact .inr rfl) (ee_bin op_modD (ee_ix (ee_var (i := 0) rfl (by first | exact .inl rfl | exact .inr (.inl rfl) | exact .inr (.inr rfl)) (by decide) (by decide)) ee_int (fun _ _ => rfl)) (ee_var (i := 1) rfl (by first | exact .inl rfl | exact .inr (.inl rfl) | exact .inr (.inr rfl)) (by decide) (by decide))) (fun _ => rfl) (.inl rfl))
    (es_cons (es_asg (ee_bin op_divD (ee_ix (ee_var (i := 0) rfl (by first | exact .inl rfl | exact .inr (.inl rfl) | exact .inr (.inr rfl)) (by decide) (by decide)) ee_int (fun _ _ => rfl)) (ee_var (i := 1) rfl (by first | exact .inl rfl | exact .inr (.inl rfl) | exact .inr (.inr rfl)) (by decide) (by decide))) (eg_sub se_any (ee_var (i := 0) rfl (by first | exact .inl rfl | exact .inr (.inl rfl) | exact .inr (.inr rfl)) (by decide) (by decide)) ee_int (fun _ _ => rfl)) (fun _ => rfl) (fun env he => by cases env; cases he; rfl) (fun _ => rfl))
    (es_cons (es_ret (ee_var (i := 4) rfl (by first | exact .inl rfl | exact .inr (.inl rfl) | exact .inr (.inr rfl)) (by decide) (by decide)))
    es_nil))) es_nil)
    (es_cons (es_set (i := 2) rfl (by first | exact .inl rfl | exact .inr rfl) (ee_ix (ee_var (i := 0) rfl (by first | exact .inl rfl | exact .inr (.inl rfl) | exact .inr (.inr rfl)) (by decide) (by decide)) ee_int (fun _ _ => rfl)) (fun _ => rfl) (.inl rfl))
    (es_cons (es_set (i := 3) rfl (by first | exact .inl rfl | exact .inr rfl) (ee_bin op_addD (ee_ix (ee_var (i := 2) rfl (by first | exact .inl rfl | exact .inr (.inl rfl) | exact .inr (.inr rfl)) (by decide) (by decide)) (ee_bin op_modD (ee_ix (ee_var (i := 0) rfl (by first | exact .inl rfl | exact .inr (.inl rfl) | exact .inr (.inr rfl)) (by decide) (by decide)) ee_int (fun _ _ => rfl)) (ee_callB ca_len rfl h.z_len bt_len (ea_cons (ee_var (i := 2) rfl (by first | exact .inl rfl | exact .inr (.inl rfl) | exact .inr (.inr rfl)) (by decide) (by decide)) ea_nil (fun _ _ => rfl)) (fun _ _ => rfl) (fun _ => rfl) (by decide) (by decide))) (fun _ _ => rfl)) (ee_bin op_mulD ee_int (ee_bin op_divD (ee_ix (ee_var (i := 0) rfl (by first | exact .inl rfl | exact .inr (.inl rfl) | exact .inr (.inr rfl)) (by decide) (by decide)) ee_int (fun _ _ => rfl)) (ee_callB ca_len rfl h.z_len bt_len (ea_cons (ee_var (i := 2) rfl (by first | exact .inl rfl | exact .inr (.inl rfl) | exact .inr (.inr rfl)) (by decide) (by decide)) ea_nil (fun _ _ => rfl)) (fun _ _ => rfl) (fun _ => rfl) (by decide) (by decide))))) (fun _ => rfl) (.inl rfl))
    (es_cons (es_ret (ee_bin op_modD (ee_bin op_divD (ee_callF (fn__law_mix h) (by decide) rfl (ea_cons (ee_callF (fn__law_mix h) (by decide) rfl (ea_cons (ee_var (i := 3) rfl (by first | exact .inl rfl | exact .inr (.inl rfl) | exact .inr (.inr rfl)) (by decide) (by decide)) (ea_cons (ee_ix (ee_var (i := 0) rfl (by first | exact .inl rfl | exact .inr (.inl rfl) | exact .inr (.inr rfl)) (by decide) (by decide)) ee_int (fun _ _ => rfl)) ea_nil (fun _ _ => rfl)) (fun _ _ => rfl)) (fun _ _ => rfl) (fun _ => rfl) (by decide)) (ea_cons (ee_bin op_addD (ee_ix (ee_var (i := 0) rfl (by first | exact .inl rfl | exact .inr (.inl rfl) | exact .inr (.inr rfl)) (by decide) (by decide)) ee_int (fun _ _ => rfl)) ee_int) ea_nil (fun _ _ => rfl)) (fun _ _ => rfl)) (fun _ _ => rfl) (fun _ => rfl) (by decide)) ee_int) (ee_var (i := 1) rfl (by first | exact .inl rfl | exact .inr (.inl rfl) | exact .inr (.inr rfl)) (by decide) (by decide))))
    es_nil)))))
theorem sc__law_some_names : FnScope ["_law_left_here", "_law_many", "_law_letters", "_law_head", "_law_tail", "_law_first", "_law_by", "_law_found", "_law_k", "_law_value", "_law_two", "_law_turn"] ["_law_left_here", "_law_many"] (defScope s__law_some_names) := ⟨rfl, rfl, rfl, by decide +kernel, rfl, by decide +kernel, by decide +kernel⟩
def fb__law_some_names_1 : SM := (sSeq (sAsg (eP modD (cA (eP addD (cA (eV 5) (cA (eP mulD (cA (eV 6) (cA (eV 8) cN))) cN))) (cA (eC (.int 676)) cN))) (gN 9))
    (sSeq (sAsg (eP addD (cA (eP ixD (cA (eV 2) (cA (eP divD (cA (eV 9) (cA (eC (.int 26)) cN))) cN))) (cA (eP ixD (cA (eV 2) (cA (eP modD (cA (eV 9) (cA (eC (.int 26)) cN))) cN))) cN))) (gN 10))
    (sSeq (sExp (eU "list" appendD (eV 7) (cA (eP addD (cA (eP addD (cA (eV 3) (cA (eV 10) cN))) (cA (eSl (eV 4) oN (oS (eP modD (cA (eP addD (cA (eP mulD (cA (eV 8) (cA (eV 8) cN))) (cA (eV 5) cN))) (cA (eC (.int 3)) cN))))) cN))) cN)))
    sNil)))
def fl__law_some_names_1 : SM := sFor (mR1 (cA (eV 1) cN)) (gN 8) fb__law_some_names_1
def ce__law_some_names_2 : M Vl := (eP ixD (cA (eV 2) (cA (eP modD (cA (eP addD (cA (eV 5) (cA (eP mulD (cA (eV 6) (cA (eV 8) cN))) cN))) (cA (eC (.int 26)) cN))) cN)))
def cp__law_some_names_2 : M Vl := eComp [8] (mR1 (cA (eV 1) cN)) (gN 8) (rt true) ce__law_some_names_2
def ce__law_some_names_3 : M Vl := (eP ixD (cA (eV 2) (cA (eCallF F__law_pick (cA (eV 0) (cA (eC (.int 26)) cN))) cN)))
def cp__law_some_names_3 : M Vl := eComp [11] (mR1 (cA (eCallF F__law_pick (cA (eV 0) (cA (eC (.int 3)) cN))) cN)) (gN 11) (rt true) ce__law_some_names_3
def ce__law_some_names_4 : M Vl := (eP ixD (cA (eV 2) (cA (eCallF F__law_pick (cA (eV 0) (cA (eC (.int 26)) cN))) cN)))
def cp__law_some_names_4 : M Vl := eComp [11] (mR1 (cA (eCallF F__law_pick (cA (eV 0) (cA (eC (.int 3)) cN))) cN)) (gN 11) (rt true) ce__law_some_names_4
def b__law_some_names : SM := (sSeq (sAsg (eC (.str "abcdefghijklmnopqrstuvwxyz")) (gN 2))
    (sSeq (sAsg (eM "str" joinD (eC (.str "")) (cA cp__law_some_names_4 cN)) (gN 3))
    (sSeq (sAsg (eM "str" joinD (eC (.str "")) (cA cp__law_some_names_3 cN)) (gN 4))
    (sSeq (sPF 5 6 (eCallF F__law_pick (cA (eV 0) (cA (eC (.int 676)) cN))) (eP ixD (cA (eLst (cA (eC (.int 1)) (cA (eC (.int 3)) (cA (eC (.int 5)) (cA (eC (.int 7)) (cA (eC (.int 25)) (cA (eC (.int 675)) cN))))))) (cA (eCallF F__law_pick (cA (eV 0) (cA (eC (.int 6)) cN))) cN))))
    (sSeq (sIf (mAnd (mB (eP ltD (cA (eV 1) (cA (eC (.int 27)) cN)))) (mB (eP eqD (cA (eCallF F__law_pick (cA (eV 0) (cA (eC (.int 4)) cN))) (cA (eC (.int 0)) cN))))) (sSeq (sRet cp__law_some_names_2)
    sNil) sNil)
    (sSeq (sAsg (eLst cN) (gN 7))
    (sSeq fl__law_some_names_1
    (sSeq (sRet (eV 7))
    sNil))))))))
def F__law_some_names : Fs := ⟨runF [true, false] 12 b__law_some_names, [true, false]⟩
theorem sem__law_some_names (ds : List D) : F__law_some_names.sem ds = runF [true, false] 12 b__law_some_names ds := rfl
theorem sig__law_some_names : F__law_some_names.sig = [true, false] := rfl
theorem fn__law_some_names {g : G0} (h : Hyp g) : FnI g "_law_some_names" 3 F__law_some_names :=
  fn_rule h.d__law_some_names sc__law_some_names rfl (es_cons (es_set (i := 2) rfl (by first | exact .inl rfl | exact .inr rfl) (ee_str (by decide +kernel)) (fun _ => rfl) (.inl rfl))
    (es_cons (es_set (i := 3) rfl (by first | exact .inl rfl | exact .inr rfl) (ee_meth me_join (ee_str (by decide +kernel)) (ea_cons (ee_comp (own := [("_law_turn", 11)]) (by first | decide +kernel | (dsimp only; decide +kernel) | rfl) (by decide) (by decide) (ei_r1 rfl h.z_range (ea_cons (ee_callF (fn__law_pick h) (by decide) rfl (ea_cons (ee_var (i := 0) rfl (by first | exact .inl rfl | exact .inr (.inl rfl) | exact .inr (.inr rfl)) (by decide) (by decide)) (ea_cons ee_int ea_nil (fun _ _ => rfl)) (fun _ _ => rfl)) (fun _ _ => rfl) (fun _ => rfl) (by decide)) ea_nil (fun _ _ => rfl)) (fun _ _ => rfl)) (eg_name (i := 11) rfl (by first | exact .inl rfl | exact .inr rfl) (by first | exact .inl rfl | exact .inr rfl)) ep_nil (ee_ix (ee_var (i := 2) rfl (by first | exact .inl rfl | exact .inr (.inl rfl) | exact .inr (.inr rfl)) (by decide) (by decide)) (ee_callF (fn__law_pick h) (by decide) rfl (ea_cons (ee_var (i := 0) rfl (by first | exact .inl rfl | exact .inr (.inl rfl) | exact .inr (.inr rfl)) (by decide) (by decide)) (ea_cons ee_int ea_nil (fun _ _ => rfl)) (fun _ _ => rfl)) (fun _ _ => rfl) (fun _ => rfl) (by decide)) (fun _ _ => rfl)) (fun _ _ => rfl)) ea_nil (fun _ _ => rfl)) (fun _ _ => rfl) (fun _ => rfl) (fun _ => rfl) rfl (fun _ => rfl)) (fun _ => rfl) (.inl rfl))
    (es_cons (es_set (i := 4) rfl (by first | exact .inl rfl | exact .inr rfl) (ee_meth me_join (ee_str (by decide +kernel)) (ea_cons (ee_comp (own := [("_law_turn", 11)]) (by first | decide +kernel | (dsimp only; decide +kernel) | rfl) (by decide) (by decide) (ei_r1 rfl h.z_range (ea_cons (ee_callF (fn__law_pick h) (by decide) rfl (ea_cons (ee_var (i := 0) rfl (by first | exact .inl rfl | exact .inr (.inl rfl) | exact .inr (.inr rfl)) (by decide) (by decide)) (ea_cons ee_int ea_nil (fun _ _ => rfl)) (fun _ _ => rfl)) (fun _ _ => rfl) (fun _ => rfl) (by decide)) ea_nil (fun _ _ => rfl)) (fun _ _ => rfl)) (eg_name (i := 11) rfl (by first | exact .inl rfl | exact .inr rfl) (by first | exact .inl rfl | exact .inr rfl)) ep_nil (ee_ix (ee_var (i := 2) rfl (by first | exact .inl rfl | exact .inr (.inl rfl) | exact .inr (.inr rfl)) (by decide) (by decide)) (ee_callF (fn__law_pick h) (by decide) rfl (ea_cons (ee_var (i := 0) rfl (by first | exact .inl rfl | exact .inr (.inl rfl) | exact .inr (.inr rfl)) (by decide) (by decide)) (ea_cons ee_int ea_nil (fun _ _ => rfl)) (fun _ _ => rfl)) (fun _ _ => rfl) (fun _ => rfl) (by decide)) (fun _ _ => rfl)) (fun _ _ => rfl)) ea_nil (fun _ _ => rfl)) (fun _ _ => rfl) (fun _ => rfl) (fun _ => rfl) rfl (fun _ => rfl)) (fun _ => rfl) (.inl rfl))
    (es_cons (es_pfc (i := 5) (j := 6) rfl rfl (by decide) (by first | exact .inl rfl | exact .inr rfl) (by first | exact .inl rfl | exact .inr rfl) rfl rfl (ee_callF (fn__law_pick h) (by decide) rfl (ea_cons (ee_var (i := 0) rfl (by first | exact .inl rfl | exact .inr (.inl rfl) | exact .inr (.inr rfl)) (by decide) (by decide)) (ea_cons ee_int ea_nil (fun _ _ => rfl)) (fun _ _ => rfl)) (fun _ _ => rfl) (fun _ => rfl) (by decide)) (ee_ix (ee_lst (ea_cons ee_int (ea_cons ee_int (ea_cons ee_int (ea_cons ee_int (ea_cons ee_int (ea_cons ee_int ea_nil (fun _ _ => rfl)) (fun _ _ => rfl)) (fun _ _ => rfl)) (fun _ _ => rfl)) (fun _ _ => rfl)) (fun _ _ => rfl))) (ee_callF (fn__law_pick h) (by decide) rfl (ea_cons (ee_var (i := 0) rfl (by first | exact .inl rfl | exact .inr (.inl rfl) | exact .inr (.inr rfl)) (by decide) (by decide)) (ea_cons ee_int ea_nil (fun _ _ => rfl)) (fun _ _ => rfl)) (fun _ _ => rfl) (fun _ => rfl) (by decide)) (fun _ _ => rfl)) (fun _ _ => rfl) (fun _ _ => rfl) (fun env he => by cases env; cases he; rfl) (fun _ => rfl))
    (es_cons (es_if (et_w (ew_and (et_cmp op_ltD (ee_var (i := 1) rfl (by first | exact .inl rfl | exact .inr (.inl rfl) | exact .inr (.inr rfl)) (by decide) (by decide)) ee_int rfl) (ew_and1 (et_cmp op_eqD' (ee_callF (fn__law_pick h) (by decide) rfl (ea_cons (ee_var (i := 0) rfl (by first | exact .inl rfl | exact .inr (.inl rfl) | exact .inr (.inr rfl)) (by decide) (by decide)) (ea_cons ee_int ea_nil (fun _ _ => rfl)) (fun _ _ => rfl)) (fun _ _ => rfl) (fun _ => rfl) (by decide)) ee_int rfl)))) (es_cons (es_ret (ee_comp (own := [("_law_k", 8)]) (by first | decide +kernel | (dsimp only; decide +kernel) | rfl) (by decide) (by decide) (ei_r1 rfl h.z_range (ea_cons (ee_var (i := 1) rfl (by first | exact .inl rfl | exact .inr (.inl rfl) | exact .inr (.inr rfl)) (by decide) (by decide)) ea_nil (fun _ _ => rfl)) (fun _ _ => rfl)) (eg_name (i := 8) rfl (by first | exact .inl rfl | exact .inr rfl) (by first | exact .inl rfl | exact .inr rfl)) ep_nil (ee_ix (ee_var (i := 2) rfl (by first | exact .inl rfl | exact .inr (.inl rfl) | exact .inr (.inr rfl)) (by decide) (by decide)) (ee_bin op_modD (ee_bin op_addD (ee_var (i := 5) rfl (by first | exact .inl rfl | exact .inr (.inl rfl) | exact .inr (.inr rfl)) (by decide) (by decide)) (ee_bin op_mulD (ee_var (i := 6) rfl (by first | exact .inl rfl | exact .inr (.inl rfl) | exact .inr (.inr rfl)) (by decide) (by decide)) (ee_var (i := 8) rfl (by first | exact .inl rfl | exact .inr (.inl rfl) | exact .inr (.inr rfl)) (by decide) (by decide)))) ee_int) (fun _ _ => rfl)) (fun _ _ => rfl)))
    es_nil) es_nil)
    (es_cons (es_set (i := 7) rfl (by first | exact .inl rfl | exact .inr rfl) (ee_lst ea_nil) (fun _ => rfl) (.inl rfl))
    (es_cons (es_for (ei_r1 rfl h.z_range (ea_cons (ee_var (i := 1) rfl (by first | exact .inl rfl | exact .inr (.inl rfl) | exact .inr (.inr rfl)) (by decide) (by decide)) ea_nil (fun _ _ => rfl)) (fun _ _ => rfl)) (eg_name (i := 8) rfl (by first | exact .inl rfl | exact .inr rfl) (by first | exact .inl rfl | exact .inr rfl)) (es_cons (es_set (i := 9) rfl (by first | exact .inl rfl | exact .inr rfl) (ee_bin op_modD (ee_bin op_addD (ee_var (i := 5) rfl (by first | exact .inl rfl | exact .inr (.inl rfl) | exact .inr (.inr rfl)) (by decide) (by decide)) (ee_bin op_mulD (ee_var (i := 6) rfl (by first | exact .inl rfl | exact .inr (.inl rfl) | exact .inr (.inr rfl)) (by decide) (by decide)) (ee_var (i := 8) rfl (by first | exact .inl rfl | exact .inr (.inl rfl) | exact .inr (.inr rfl)) (by decide) (by decide)))) ee_int) (fun _ => rfl) (.inl rfl))
    (es_cons (es_set (i := 10) rfl (by first | exact .inl rfl | exact .inr rfl) (ee_bin op_addD (ee_ix (ee_var (i := 2) rfl (by first | exact .inl rfl | exact .inr (.inl rfl) | exact .inr (.inr rfl)) (by decide) (by decide)) (ee_bin op_divD (ee_var (i := 9) rfl (by first | exact .inl rfl | exact .inr (.inl rfl) | exact .inr (.inr rfl)) (by decide) (by decide)) ee_int) (fun _ _ => rfl)) (ee_ix (ee_var (i := 2) rfl (by first | exact .inl rfl | exact .inr (.inl rfl) | exact .inr (.inr rfl)) (by decide) (by decide)) (ee_bin op_modD (ee_var (i := 9) rfl (by first | exact .inl rfl | exact .inr (.inl rfl) | exact .inr (.inr rfl)) (by decide) (by decide)) ee_int) (fun _ _ => rfl))) (fun _ => rfl) (.inl rfl))
    (es_cons (es_exp (ee_mut mu_append (ee_var (i := 7) rfl (by first | exact .inl rfl | exact .inr (.inl rfl) | exact .inr (.inr rfl)) (by decide) (by decide)) (ea_cons (ee_bin op_addD (ee_bin op_addD (ee_var (i := 3) rfl (by first | exact .inl rfl | exact .inr (.inl rfl) | exact .inr (.inr rfl)) (by decide) (by decide)) (ee_var (i := 10) rfl (by first | exact .inl rfl | exact .inr (.inl rfl) | exact .inr (.inr rfl)) (by decide) (by decide))) (ee_sl (ee_var (i := 4) rfl (by first | exact .inl rfl | exact .inr (.inl rfl) | exact .inr (.inr rfl)) (by decide) (by decide)) eo_none (eo_some (ee_bin op_modD (ee_bin op_addD (ee_bin op_mulD (ee_var (i := 8) rfl (by first | exact .inl rfl | exact .inr (.inl rfl) | exact .inr (.inr rfl)) (by decide) (by decide)) (ee_var (i := 8) rfl (by first | exact .inl rfl | exact .inr (.inl rfl) | exact .inr (.inr rfl)) (by decide) (by decide))) (ee_var (i := 5) rfl (by first | exact .inl rfl | exact .inr (.inl rfl) | exact .inr (.inr rfl)) (by decide) (by decide))) ee_int)))) ea_nil (fun _ _ => rfl)) (fun _ _ => rfl) (fun _ => rfl) (fun _ => rfl) rfl (fun _ => rfl)) (fun _ => rfl))
    es_nil))) (fun _ _ => rfl))
    (es_cons (es_ret (ee_var (i := 7) rfl (by first | exact .inl rfl | exact .inr (.inl rfl) | exact .inr (.inr rfl)) (by decide) (by decide)))
    es_nil))))))))
theorem sc__law_terrace : FnScope ["_law_left_here", "_law_big", "_law_names", "_law_fields", "_law_gates", "_law_many", "_law_way", "_law_owners", "_law_k", "_law_below", "_law_dyke", "_law_soak", "_law_rights", "_law_row", "_law_turn", "_law_at", "_law_name"] ["_law_left_here", "_law_big"] (defScope s__law_terrace) := ⟨rfl, rfl, rfl, by decide +kernel, rfl, by decide +kernel, by decide +kernel⟩
def ce__law_terrace_1 : M Vl := (eV 16)
def cp__law_terrace_1 : M Vl := eComp [15, 16] (mEnum (eV 13)) (gT 2 (gsC (gN 15) (gsC (gN 16) gsN))) (mB (eP notInD (cA (eV 16) (cA (eSl (eV 13) oN (oS (eV 15))) cN)))) ce__law_terrace_1
def ce__law_terrace_2 : M Vl := (eP ixD (cA (eV 2) (cA (eV 15) cN)))
def cp__law_terrace_2 : M Vl := eComp [15] (mR1 (cA (eV 5) cN)) (gN 15) (mB (eP gtD (cA (eCallF F__law_pick (cA (eV 0) (cA (eC (.int 3)) cN))) (cA (eC (.int 0)) cN)))) ce__law_terrace_2
def ce__law_terrace_3 : M Vl := (eP ixD (cA (eV 7) (cA (eCallF F__law_pick (cA (eV 0) (cA (eC (.int 6)) cN))) cN)))
def cp__law_terrace_3 : M Vl := eComp [14] (mR1 (cA (eP ixD (cA (eLst (cA (eP addD (cA (eC (.int 1)) (cA (eCallF F__law_pick (cA (eV 0) (cA (eC (.int 5)) cN))) cN))) (cA (eC (.int 12)) cN))) (cA (eP intD (cA (eV 1) cN)) cN))) cN)) (gN 14) (rt true) ce__law_terrace_3
def fb__law_terrace_4 : SM := (sSeq (sAsg cp__law_terrace_3 (gN 12))
    (sSeq (sAsg (eP sortedD (cA (eP addD (cA cp__law_terrace_2 (cA (eSl (eV 2) oN (oS (eC (.int 1)))) cN))) cN)) (gN 13))
    (sSeq (sAsg cp__law_terrace_1 (gN 13))
    (sSeq (sExp (eU "list" appendD (eV 4) (cA (eTup (cA (eP ixD (cA (eV 2) (cA (eP subD (cA (eC (.int 15)) (cA (eV 8) cN))) cN))) (cA (eP ixD (cA (eLst (cA (eP addD (cA (eC (.int 1)) (cA (eCallF F__law_pick (cA (eV 0) (cA (eC (.int 99)) cN))) cN))) (cA (eC (.int 999)) cN))) (cA (eCallF F__law_pick (cA (eV 0) (cA (eC (.int 2)) cN))) cN))) (cA (eP tupleD (cA (eV 12) cN)) (cA (eP tupleD (cA (eV 13) cN)) cN))))) cN)))
    sNil))))
def fl__law_terrace_4 : SM := sFor (mR1 (cA (eP ixD (cA (eLst (cA (eCallF F__law_pick (cA (eV 0) (cA (eC (.int 4)) cN))) (cA (eC (.int 4)) cN))) (cA (eP intD (cA (eV 1) cN)) cN))) cN)) (gN 8) fb__law_terrace_4
def fb__law_terrace_5 : SM := (sSeq (sAsg (eP ixD (cA (eP addD (cA (eLst (cA (eC (.str "")) cN)) (cA (eSl (eV 2) oN (oS (eV 8))) cN))) (cA (eP ixD (cA (eLst (cA (eV 8) (cA (eCallF F__law_pick (cA (eV 0) (cA (eP addD (cA (eV 8) (cA (eC (.int 1)) cN))) cN))) (cA (eP maxD (cA (eC (.int 0)) (cA (eP subD (cA (eV 8) (cA (eC (.int 1)) cN))) cN))) cN)))) (cA (eV 6) cN))) cN))) (gN 9))
    (sSeq (sAsg (eP ixD (cA (eLst (cA (eP addD (cA (eC (.int 1)) (cA (eCallF F__law_pick (cA (eV 0) (cA (eC (.int 9)) cN))) cN))) (cA (eP addD (cA (eC (.int 1)) (cA (eCallF F__law_pick (cA (eV 0) (cA (eC (.int 99)) cN))) cN))) (cA (eP addD (cA (eC (.int 1)) (cA (eCallF F__law_pick (cA (eV 0) (cA (eC (.int 999)) cN))) cN))) cN)))) (cA (eCallF F__law_pick (cA (eV 0) (cA (eC (.int 3)) cN))) cN))) (gN 10))
    (sSeq (sAsg (eP ixD (cA (eLst (cA (eC (.int 0)) (cA (eCallF F__law_pick (cA (eV 0) (cA (eC (.int 4)) cN))) (cA (eCallF F__law_pick (cA (eV 0) (cA (eC (.int 100)) cN))) cN)))) (cA (eCallF F__law_pick (cA (eV 0) (cA (eC (.int 3)) cN))) cN))) (gN 11))
    (sSeq (sExp (eU "list" appendD (eV 3) (cA (eTup (cA (eP ixD (cA (eV 2) (cA (eV 8) cN))) (cA (eP ixD (cA (eV 7) (cA (eCallF F__law_pick (cA (eV 0) (cA (eC (.int 6)) cN))) cN))) (cA (eV 9) (cA (eV 10) (cA (eV 11) cN)))))) cN)))
    sNil))))
def fl__law_terrace_5 : SM := sFor (mR1 (cA (eV 5) cN)) (gN 8) fb__law_terrace_5
def b__law_terrace : SM := (sSeq (sPF3 2 3 4 (eCallF F__law_some_names (cA (eV 0) (cA (eC (.int 16)) cN))) (eLst cN) (eLst cN))
    (sSeq (sPF3 5 6 7 (eP ixD (cA (eLst (cA (eP addD (cA (eC (.int 1)) (cA (eCallF F__law_pick (cA (eV 0) (cA (eC (.int 6)) cN))) cN))) (cA (eC (.int 8)) cN))) (cA (eP intD (cA (eV 1) cN)) cN))) (eCallF F__law_pick (cA (eV 0) (cA (eC (.int 3)) cN))) (eSl (eV 2) (oS (eC (.int 6))) (oS (eC (.int 12)))))
    (sSeq fl__law_terrace_5
    (sSeq fl__law_terrace_4
    (sSeq (sRet (eTup (cA (eP tupleD (cA (eP sortedD (cA (eV 3) cN)) cN)) (cA (eP tupleD (cA (eP sortedD (cA (eV 4) cN)) cN)) cN))))
    sNil)))))
def F__law_terrace : Fs := ⟨runF [true, false] 17 b__law_terrace, [true, false]⟩
theorem sem__law_terrace (ds : List D) : F__law_terrace.sem ds = runF [true, false] 17 b__law_terrace ds := rfl
theorem sig__law_terrace : F__law_terrace.sig = [true, false] := rfl
theorem fn__law_terrace {g : G0} (h : Hyp g) : FnI g "_law_terrace" 4 F__law_terrace :=
  fn_rule h.d__law_terrace sc__law_terrace rfl (es_cons (es_pfc3 (i := 2) (j := 3) (l := 4) rfl rfl rfl (by decide) (by decide) (by decide) (by first | exact .inl rfl | exact .inr rfl) (by first | exact .inl rfl | exact .inr rfl) (by first | exact .inl rfl | exact .inr rfl) rfl rfl rfl (ee_callF (fn__law_some_names h) (by decide) rfl (ea_cons (ee_var (i := 0) rfl (by first | exact .inl rfl | exact .inr (.inl rfl) | exact .inr (.inr rfl)) (by decide) (by decide)) (ea_cons ee_int ea_nil (fun _ _ => rfl)) (fun _ _ => rfl)) (fun _ _ => rfl) (fun _ => rfl) (by decide)) (ee_lst ea_nil) (ee_lst ea_nil) (fun _ _ => rfl) (fun _ _ => rfl) (fun _ _ => rfl) (fun env he => by cases env; cases he; rfl) (fun _ => rfl))
    (es_cons (es_pfc3 (i := 5) (j := 6) (l := 7) rfl rfl rfl (by decide) (by decide) (by decide) (by first | exact .inl rfl | exact .inr rfl) (by first | exact .inl rfl | exact .inr rfl) (by first | exact .inl rfl | exact .inr rfl) rfl rfl rfl (ee_ix (ee_lst (ea_cons (ee_bin op_addD ee_int (ee_callF (fn__law_pick h) (by decide) rfl (ea_cons (ee_var (i := 0) rfl (by first | exact .inl rfl | exact .inr (.inl rfl) | exact .inr (.inr rfl)) (by decide) (by decide)) (ea_cons ee_int ea_nil (fun _ _ => rfl)) (fun _ _ => rfl)) (fun _ _ => rfl) (fun _ => rfl) (by decide))) (ea_cons ee_int ea_nil (fun _ _ => rfl)) (fun _ _ => rfl))) (ee_callTy ca_int rfl h.z_int bt_int (ea_cons (ee_var (i := 1) rfl (by first | exact .inl rfl | exact .inr (.inl rfl) | exact .inr (.inr rfl)) (by decide) (by decide)) ea_nil (fun _ _ => rfl)) (fun _ _ => rfl) (fun _ => rfl) (by decide) (by decide)) (fun _ _ => rfl)) (ee_callF (fn__law_pick h) (by decide) rfl (ea_cons (ee_var (i := 0) rfl (by first | exact .inl rfl | exact .inr (.inl rfl) | exact .inr (.inr rfl)) (by decide) (by decide)) (ea_cons ee_int ea_nil (fun _ _ => rfl)) (fun _ _ => rfl)) (fun _ _ => rfl) (fun _ => rfl) (by decide)) (ee_sl (ee_var (i := 2) rfl (by first | exact .inl rfl | exact .inr (.inl rfl) | exact .inr (.inr rfl)) (by decide) (by decide)) (eo_some ee_int) (eo_some ee_int)) (fun _ _ => rfl) (fun _ _ => rfl) (fun _ _ => rfl) (fun env he => by cases env; cases he; rfl) (fun _ => rfl))
    (es_cons (es_for (ei_r1 rfl h.z_range (ea_cons (ee_var (i := 5) rfl (by first | exact .inl rfl | exact .inr (.inl rfl) | exact .inr (.inr rfl)) (by decide) (by decide)) ea_nil (fun _ _ => rfl)) (fun _ _ => rfl)) (eg_name (i := 8) rfl (by first | exact .inl rfl | exact .inr rfl) (by first | exact .inl rfl | exact .inr rfl)) (es_cons (es_set (i := 9) rfl (by first | exact .inl rfl | exact .inr rfl) (ee_ix (ee_bin op_addD (ee_lst (ea_cons (ee_str (by decide +kernel)) ea_nil (fun _ _ => rfl))) (ee_sl (ee_var (i := 2) rfl (by first | exact .inl rfl | exact .inr (.inl rfl) | exact .inr (.inr rfl)) (by decide) (by decide)) eo_none (eo_some (ee_var (i := 8) rfl (by first | exact .inl rfl | exact .inr (.inl rfl) | exact .inr (.inr rfl)) (by decide) (by decide))))) (ee_ix (ee_lst (ea_cons (ee_var (i := 8) rfl (by first | exact .inl rfl | exact .inr (.inl rfl) | exact .inr (.inr rfl)) (by decide) (by decide)) (ea_cons (ee_callF (fn__law_pick h) (by decide) rfl (ea_cons (ee_var (i := 0) rfl (by first | exact .inl rfl | exact .inr (.inl rfl) | exact .inr (.inr rfl)) (by decide) (by decide)) (ea_cons (ee_bin op_addD (ee_var (i := 8) rfl (by first | exact .inl rfl | exact .inr (.inl rfl) | exact .inr (.inr rfl)) (by decide) (by decide)) ee_int) ea_nil (fun _ _ => rfl)) (fun _ _ => rfl)) (fun _ _ => rfl) (fun _ => rfl) (by decide)) (ea_cons (ee_callB ca_max rfl h.z_max bt_max (ea_cons ee_int (ea_cons (ee_bin op_subD (ee_var (i := 8) rfl (by first | exact .inl rfl | exact .inr (.inl rfl) | exact .inr (.inr rfl)) (by decide) (by decide)) ee_int) ea_nil (fun _ _ => rfl)) (fun _ _ => rfl)) (fun _ _ => rfl) (fun _ => rfl) (by decide) (by decide)) ea_nil (fun _ _ => rfl)) (fun _ _ => rfl)) (fun _ _ => rfl))) (ee_var (i := 6) rfl (by first | exact .inl rfl | exact .inr (.inl rfl) | exact .inr (.inr rfl)) (by decide) (by decide)) (fun _ _ => rfl)) (fun _ _ => rfl)) (fun _ => rfl) (.inl rfl))
    (es_cons (es_set (i := 10) rfl (by first | exact .inl rfl | exact .inr rfl) (ee_ix (ee_lst (ea_cons (ee_bin op_addD ee_int (ee_callF (fn__law_pick h) (by decide) rfl (ea_cons (ee_var (i := 0) rfl (by first | exact .inl rfl | exact .inr (.inl rfl) | exact .inr (.inr rfl)) (by decide) (by decide)) (ea_cons ee_int ea_nil (fun _ _ => rfl)) (fun _ _ => rfl)) (fun _ _ => rfl) (fun _ => rfl) (by decide))) (ea_cons (ee_bin op_addD ee_int (ee_callF (fn__law_pick h) (by decide) rfl (ea_cons (ee_var (i := 0) rfl (by first | exact .inl rfl | exact .inr (.inl rfl) | exact .inr (.inr rfl)) (by decide) (by decide)) (ea_cons ee_int ea_nil (fun _ _ => rfl)) (fun _ _ => rfl)) (fun _ _ => rfl) (fun _ => rfl) (by decide))) (ea_cons (ee_bin op_addD ee_int (ee_callF (fn__law_pick h) (by decide) rfl (ea_cons (ee_var (i := 0) rfl (by first | exact .inl rfl | exact .inr (.inl rfl) | exact .inr (.inr rfl)) (by decide) (by decide)) (ea_cons ee_int ea_nil (fun _ _ => rfl)) (fun _ _ => rfl)) (fun _ _ => rfl) (fun _ => rfl) (by decide))) ea_nil (fun _ _ => rfl)) (fun _ _ => rfl)) (fun _ _ => rfl))) (ee_callF (fn__law_pick h) (by decide) rfl (ea_cons (ee_var (i := 0) rfl (by first | exact .inl rfl | exact .inr (.inl rfl) | exact .inr (.inr rfl)) (by decide) (by decide)) (ea_cons ee_int ea_nil (fun _ _ => rfl)) (fun _ _ => rfl)) (fun _ _ => rfl) (fun _ => rfl) (by decide)) (fun _ _ => rfl)) (fun _ => rfl) (.inl rfl))
    (es_cons (es_set (i := 11) rfl (by first | exact .inl rfl | exact .inr rfl) (ee_ix (ee_lst (ea_cons ee_int (ea_cons (ee_callF (fn__law_pick h) (by decide) rfl (ea_cons (ee_var (i := 0) rfl (by first | exact .inl rfl | exact .inr (.inl rfl) | exact .inr (.inr rfl)) (by decide) (by decide)) (ea_cons ee_int ea_nil (fun _ _ => rfl)) (fun _ _ => rfl)) (fun _ _ => rfl) (fun _ => rfl) (by decide)) (ea_cons (ee_callF (fn__law_pick h) (by decide) rfl (ea_cons (ee_var (i := 0) rfl (by first | exact .inl rfl | exact .inr (.inl rfl) | exact .inr (.inr rfl)) (by decide) (by decide)) (ea_cons ee_int ea_nil (fun _ _ => rfl)) (fun _ _ => rfl)) (fun _ _ => rfl) (fun _ => rfl) (by decide)) ea_nil (fun _ _ => rfl)) (fun _ _ => rfl)) (fun _ _ => rfl))) (ee_callF (fn__law_pick h) (by decide) rfl (ea_cons (ee_var (i := 0) rfl (by first | exact .inl rfl | exact .inr (.inl rfl) | exact .inr (.inr rfl)) (by decide) (by decide)) (ea_cons ee_int ea_nil (fun _ _ => rfl)) (fun _ _ => rfl)) (fun _ _ => rfl) (fun _ => rfl) (by decide)) (fun _ _ => rfl)) (fun _ => rfl) (.inl rfl))
    (es_cons (es_exp (ee_mut mu_append (ee_var (i := 3) rfl (by first | exact .inl rfl | exact .inr (.inl rfl) | exact .inr (.inr rfl)) (by decide) (by decide)) (ea_cons (ee_tup (ea_cons (ee_ix (ee_var (i := 2) rfl (by first | exact .inl rfl | exact .inr (.inl rfl) | exact .inr (.inr rfl)) (by decide) (by decide)) (ee_var (i := 8) rfl (by first | exact .inl rfl | exact .inr (.inl rfl) | exact .inr (.inr rfl)) (by decide) (by decide)) (fun _ _ => rfl)) (ea_cons (ee_ix (ee_var (i := 7) rfl (by first | exact .inl rfl | exact .inr (.inl rfl) | exact .inr (.inr rfl)) (by decide) (by decide)) (ee_callF (fn__law_pick h) (by decide) rfl (ea_cons (ee_var (i := 0) rfl (by first | exact .inl rfl | exact .inr (.inl rfl) | exact .inr (.inr rfl)) (by decide) (by decide)) (ea_cons ee_int ea_nil (fun _ _ => rfl)) (fun _ _ => rfl)) (fun _ _ => rfl) (fun _ => rfl) (by decide)) (fun _ _ => rfl)) (ea_cons (ee_var (i := 9) rfl (by first | exact .inl rfl | exact .inr (.inl rfl) | exact .inr (.inr rfl)) (by decide) (by decide)) (ea_cons (ee_var (i := 10) rfl (by first | exact .inl rfl | exact .inr (.inl rfl) | exact .inr (.inr rfl)) (by decide) (by decide)) (ea_cons (ee_var (i := 11) rfl (by first | exact .inl rfl | exact .inr (.inl rfl) | exact .inr (.inr rfl)) (by decide) (by decide)) ea_nil (fun _ _ => rfl)) (fun _ _ => rfl)) (fun _ _ => rfl)) (fun _ _ => rfl)) (fun _ _ => rfl))) ea_nil (fun _ _ => rfl)) (fun _ _ => rfl) (fun _ => rfl) (fun _ => rfl) rfl (fun _ => rfl)) (fun _ => rfl))
    es_nil)))) (fun _ _ => rfl))
    (es_cons (es_for (ei_r1 rfl h.z_range (ea_cons (ee_ix (ee_lst (ea_cons (ee_callF (fn__law_pick h) (by decide) rfl (ea_cons (ee_var (i := 0) rfl (by first | exact .inl rfl | exact .inr (.inl rfl) | exact .inr (.inr rfl)) (by decide) (by decide)) (ea_cons ee_int ea_nil (fun _ _ => rfl)) (fun _ _ => rfl)) (fun _ _ => rfl) (fun _ => rfl) (by decide)) (ea_cons ee_int ea_nil (fun _ _ => rfl)) (fun _ _ => rfl))) (ee_callTy ca_int rfl h.z_int bt_int (ea_cons (ee_var (i := 1) rfl (by first | exact .inl rfl | exact .inr (.inl rfl) | exact .inr (.inr rfl)) (by decide) (by decide)) ea_nil (fun _ _ => rfl)) (fun _ _ => rfl) (fun _ => rfl) (by decide) (by decide)) (fun _ _ => rfl)) ea_nil (fun _ _ => rfl)) (fun _ _ => rfl)) (eg_name (i := 8) rfl (by first | exact .inl rfl | exact .inr rfl) (by first | exact .inl rfl | exact .inr rfl)) (es_cons (es_setLc (i := 12) rfl rfl (fun env he => by cases env; cases he; rfl) (own := [("_law_turn", 14)]) (by first | decide +kernel | (dsimp only; decide +kernel) | rfl) (by decide) (by decide) (ei_r1 rfl h.z_range (ea_cons (ee_ix (ee_lst (ea_cons (ee_bin op_addD ee_int (ee_callF (fn__law_pick h) (by decide) rfl (ea_cons (ee_var (i := 0) rfl (by first | exact .inl rfl | exact .inr (.inl rfl) | exact .inr (.inr rfl)) (by decide) (by decide)) (ea_cons ee_int ea_nil (fun _ _ => rfl)) (fun _ _ => rfl)) (fun _ _ => rfl) (fun _ => rfl) (by decide))) (ea_cons ee_int ea_nil (fun _ _ => rfl)) (fun _ _ => rfl))) (ee_callTy ca_int rfl h.z_int bt_int (ea_cons (ee_var (i := 1) rfl (by first | exact .inl rfl | exact .inr (.inl rfl) | exact .inr (.inr rfl)) (by decide) (by decide)) ea_nil (fun _ _ => rfl)) (fun _ _ => rfl) (fun _ => rfl) (by decide) (by decide)) (fun _ _ => rfl)) ea_nil (fun _ _ => rfl)) (fun _ _ => rfl)) (eg_name (i := 14) rfl (by first | exact .inl rfl | exact .inr rfl) (by first | exact .inl rfl | exact .inr rfl)) ep_nil (ee_ix (ee_var (i := 7) rfl (by first | exact .inl rfl | exact .inr (.inl rfl) | exact .inr (.inr rfl)) (by decide) (by decide)) (ee_callF (fn__law_pick h) (by decide) rfl (ea_cons (ee_var (i := 0) rfl (by first | exact .inl rfl | exact .inr (.inl rfl) | exact .inr (.inr rfl)) (by decide) (by decide)) (ea_cons ee_int ea_nil (fun _ _ => rfl)) (fun _ _ => rfl)) (fun _ _ => rfl) (fun _ => rfl) (by decide)) (fun _ _ => rfl)) (fun _ _ => rfl))
    (es_cons (es_set (i := 13) rfl (by first | exact .inl rfl | exact .inr rfl) (ee_callB ca_sorted rfl h.z_sorted bt_sorted (ea_cons (ee_bin op_addD (ee_comp (own := [("_law_at", 15)]) (by first | decide +kernel | (dsimp only; decide +kernel) | rfl) (by decide) (by decide) (ei_r1 rfl h.z_range (ea_cons (ee_var (i := 5) rfl (by first | exact .inl rfl | exact .inr (.inl rfl) | exact .inr (.inr rfl)) (by decide) (by decide)) ea_nil (fun _ _ => rfl)) (fun _ _ => rfl)) (eg_name (i := 15) rfl (by first | exact .inl rfl | exact .inr rfl) (by first | exact .inl rfl | exact .inr rfl)) (ep_one (et_cmp op_gtD (ee_callF (fn__law_pick h) (by decide) rfl (ea_cons (ee_var (i := 0) rfl (by first | exact .inl rfl | exact .inr (.inl rfl) | exact .inr (.inr rfl)) (by decide) (by decide)) (ea_cons ee_int ea_nil (fun _ _ => rfl)) (fun _ _ => rfl)) (fun _ _ => rfl) (fun _ => rfl) (by decide)) ee_int rfl)) (ee_ix (ee_var (i := 2) rfl (by first | exact .inl rfl | exact .inr (.inl rfl) | exact .inr (.inr rfl)) (by decide) (by decide)) (ee_var (i := 15) rfl (by first | exact .inl rfl | exact .inr (.inl rfl) | exact .inr (.inr rfl)) (by decide) (by decide)) (fun _ _ => rfl)) (fun _ _ => rfl)) (ee_sl (ee_var (i := 2) rfl (by first | exact .inl rfl | exact .inr (.inl rfl) | exact .inr (.inr rfl)) (by decide) (by decide)) eo_none (eo_some ee_int))) ea_nil (fun _ _ => rfl)) (fun _ _ => rfl) (fun _ => rfl) (by decide) (by decide)) (fun _ => rfl) (.inl rfl))
    (es_cons (es_setC (i := 13) rfl (by first | exact .inl rfl | exact .inr rfl) (ee_comp (own := [("_law_at", 15), ("_law_name", 16)]) (by first | decide +kernel | (dsimp only; decide +kernel) | rfl) (by decide) (by decide) (ei_enum rfl h.z_enumerate (ee_var (i := 13) rfl (by first | exact .inl rfl | exact .inr (.inl rfl) | exact .inr (.inr rfl)) (by decide) (by decide)) (fun _ _ => rfl)) (eg_tup (egs_cons (eg_name (i := 15) rfl (by first | exact .inl rfl | exact .inr rfl) (by first | exact .inl rfl | exact .inr rfl)) (egs_cons (eg_name (i := 16) rfl (by first | exact .inl rfl | exact .inr rfl) (by first | exact .inl rfl | exact .inr rfl)) egs_nil (fun _ => rfl)) (fun _ => rfl)) (fun _ => rfl) (fun _ => rfl)) (ep_one (et_cmp op_notInD' (ee_var (i := 16) rfl (by first | exact .inl rfl | exact .inr (.inl rfl) | exact .inr (.inr rfl)) (by decide) (by decide)) (ee_sl (ee_var (i := 13) rfl (by first | exact .inl rfl | exact .inr (.inl rfl) | exact .inr (.inr rfl)) (by decide) (by decide)) eo_none (eo_some (ee_var (i := 15) rfl (by first | exact .inl rfl | exact .inr (.inl rfl) | exact .inr (.inr rfl)) (by decide) (by decide)))) rfl)) (ee_var (i := 16) rfl (by first | exact .inl rfl | exact .inr (.inl rfl) | exact .inr (.inr rfl)) (by decide) (by decide)) (fun _ _ => rfl)) (fun env he => by cases env; cases he; rfl) (by first | exact .inl rfl | exact .inr rfl))
    (es_cons (es_exp (ee_mut mu_append (ee_var (i := 4) rfl (by first | exact .inl rfl | exact .inr (.inl rfl) | exact .inr (.inr rfl)) (by decide) (by decide)) (ea_cons (ee_tup (ea_cons (ee_ix (ee_var (i := 2) rfl (by first | exact .inl rfl | exact .inr (.inl rfl) | exact .inr (.inr rfl)) (by decide) (by decide)) (ee_bin op_subD ee_int (ee_var (i := 8) rfl (by first | exact .inl rfl | exact .inr (.inl rfl) | exact .inr (.inr rfl)) (by decide) (by decide))) (fun _ _ => rfl)) (ea_cons (ee_ix (ee_lst (ea_cons (ee_bin op_addD ee_int (ee_callF (fn__law_pick h) (by decide) rfl (ea_cons (ee_var (i := 0) rfl (by first | exact .inl rfl | exact .inr (.inl rfl) | exact .inr (.inr rfl)) (by decide) (by decide)) (ea_cons ee_int ea_nil (fun _ _ => rfl)) (fun _ _ => rfl)) (fun _ _ => rfl) (fun _ => rfl) (by decide))) (ea_cons ee_int ea_nil (fun _ _ => rfl)) (fun _ _ => rfl))) (ee_callF (fn__law_pick h) (by decide) rfl (ea_cons (ee_var (i := 0) rfl (by first | exact .inl rfl | exact .inr (.inl rfl) | exact .inr (.inr rfl)) (by decide) (by decide)) (ea_cons ee_int ea_nil (fun _ _ => rfl)) (fun _ _ => rfl)) (fun _ _ => rfl) (fun _ => rfl) (by decide)) (fun _ _ => rfl)) (ea_cons (ee_callTy ca_tuple rfl h.z_tuple bt_tuple (ea_cons (ee_var (i := 12) rfl (by first | exact .inl rfl | exact .inr (.inl rfl) | exact .inr (.inr rfl)) (by decide) (by decide)) ea_nil (fun _ _ => rfl)) (fun _ _ => rfl) (fun _ => rfl) (by decide) (by decide)) (ea_cons (ee_callTy ca_tuple rfl h.z_tuple bt_tuple (ea_cons (ee_var (i := 13) rfl (by first | exact .inl rfl | exact .inr (.inl rfl) | exact .inr (.inr rfl)) (by decide) (by decide)) ea_nil (fun _ _ => rfl)) (fun _ _ => rfl) (fun _ => rfl) (by decide) (by decide)) ea_nil (fun _ _ => rfl)) (fun _ _ => rfl)) (fun _ _ => rfl)) (fun _ _ => rfl))) ea_nil (fun _ _ => rfl)) (fun _ _ => rfl) (fun _ => rfl) (fun _ => rfl) rfl (fun _ => rfl)) (fun _ => rfl))
    es_nil)))) (fun _ _ => rfl))
    (es_cons (es_ret (ee_tup (ea_cons (ee_callTy ca_tuple rfl h.z_tuple bt_tuple (ea_cons (ee_callB ca_sorted rfl h.z_sorted bt_sorted (ea_cons (ee_var (i := 3) rfl (by first | exact .inl rfl | exact .inr (.inl rfl) | exact .inr (.inr rfl)) (by decide) (by decide)) ea_nil (fun _ _ => rfl)) (fun _ _ => rfl) (fun _ => rfl) (by decide) (by decide)) ea_nil (fun _ _ => rfl)) (fun _ _ => rfl) (fun _ => rfl) (by decide) (by decide)) (ea_cons (ee_callTy ca_tuple rfl h.z_tuple bt_tuple (ea_cons (ee_callB ca_sorted rfl h.z_sorted bt_sorted (ea_cons (ee_var (i := 4) rfl (by first | exact .inl rfl | exact .inr (.inl rfl) | exact .inr (.inr rfl)) (by decide) (by decide)) ea_nil (fun _ _ => rfl)) (fun _ _ => rfl) (fun _ => rfl) (by decide) (by decide)) ea_nil (fun _ _ => rfl)) (fun _ _ => rfl) (fun _ => rfl) (by decide) (by decide)) ea_nil (fun _ _ => rfl)) (fun _ _ => rfl))))
    es_nil)))))
theorem sc_stand_of : FnScope ["rows", "row"] ["rows"] (defScope s_stand_of) := ⟨rfl, rfl, rfl, by decide +kernel, rfl, by decide +kernel, by decide +kernel⟩
def ce_stand_of_1 : M Vl := (eP ixD (cA (eV 1) (cA (eC (.int 6)) cN)))
def cp_stand_of_1 : M Vl := eComp [1] (mLst (eV 0)) (gN 1) (rt true) ce_stand_of_1
def b_stand_of : SM := (sSeq (sRet (eP tupleD (cA cp_stand_of_1 cN)))
    sNil)
def F_stand_of : Fs := ⟨runF [false] 2 b_stand_of, [false]⟩
theorem sem_stand_of (ds : List D) : F_stand_of.sem ds = runF [false] 2 b_stand_of ds := rfl
theorem sig_stand_of : F_stand_of.sig = [false] := rfl
theorem fn_stand_of {g : G0} (h : Hyp g) : FnI g "stand_of" 1 F_stand_of :=
  fn_rule h.d_stand_of sc_stand_of rfl (es_cons (es_ret (ee_callTy ca_tuple rfl h.z_tuple bt_tuple (ea_cons (ee_comp (own := [("row", 1)]) (by first | decide +kernel | (dsimp only; decide +kernel) | rfl) (by decide) (by decide) (ei_list (ee_var (i := 0) rfl (by first | exact .inl rfl | exact .inr (.inl rfl) | exact .inr (.inr rfl)) (by decide) (by decide))) (eg_name (i := 1) rfl (by first | exact .inl rfl | exact .inr rfl) (by first | exact .inl rfl | exact .inr rfl)) ep_nil (ee_ix (ee_var (i := 1) rfl (by first | exact .inl rfl | exact .inr (.inl rfl) | exact .inr (.inr rfl)) (by decide) (by decide)) ee_int (fun _ _ => rfl)) (fun _ _ => rfl)) ea_nil (fun _ _ => rfl)) (fun _ _ => rfl) (fun _ => rfl) (by decide) (by decide)))
    es_nil)
theorem sc__law_field_row : FnScope ["_law_terrace_here", "_law_stand", "_law_doings", "_law_place", "_law_found", "_law_name", "_law_owner", "_law_below", "_law_dyke", "_law_soak", "_law_above", "_law_came", "_law_let", "_law_level", "_law_whole", "_law_ran", "_law_soaked", "_law_drunk", "_law_k", "_law_row", "_law_one"] ["_law_terrace_here", "_law_stand", "_law_doings", "_law_place", "_law_found"] (defScope s__law_field_row) := ⟨rfl, rfl, rfl, by decide +kernel, rfl, by decide +kernel, by decide +kernel⟩
def ce__law_field_row_1 (R : Fs) : M Vl := (eP ixD (cA (eV 20) (cA (eC (.int 1)) cN)))
def cp__law_field_row_1 (R : Fs) : M Vl := eComp [20] (mTup (eP ixD (cA (eV 2) (cA (eC (.int 3)) cN)))) (gN 20) (mB (eP eqD (cA (eP ixD (cA (eV 20) (cA (eC (.int 0)) cN))) (cA (eV 5) cN)))) (ce__law_field_row_1 R)
def ce__law_field_row_2 (R : Fs) : M Vl := (eP ixD (cA (eV 20) (cA (eC (.int 2)) cN)))
def cp__law_field_row_2 (R : Fs) : M Vl := eComp [20] (mTup (eP ixD (cA (eV 2) (cA (eC (.int 2)) cN)))) (gN 20) (mB (eP eqD (cA (eP ixD (cA (eV 20) (cA (eC (.int 1)) cN))) (cA (eV 5) cN)))) (ce__law_field_row_2 R)
def ce__law_field_row_3 (R : Fs) : M Vl := (eP ixD (cA (eCallF R (cA (eV 0) (cA (eV 1) (cA (eV 2) (cA (eV 18) (cA (eV 4) cN)))))) (cA (eC (.int 3)) cN)))
def cp__law_field_row_3 (R : Fs) : M Vl := eComp [18] (mLst (eV 10)) (gN 18) (rt true) (ce__law_field_row_3 R)
def ce__law_field_row_4 (R : Fs) : M Vl := (eV 18)
def cp__law_field_row_4 (R : Fs) : M Vl := eComp [18, 19] (mEnumT (eP ixD (cA (eV 0) (cA (eC (.int 0)) cN)))) (gT 2 (gsC (gN 18) (gsC (gN 19) gsN))) (mB (eP eqD (cA (eP ixD (cA (eV 19) (cA (eC (.int 2)) cN))) (cA (eV 5) cN)))) (ce__law_field_row_4 R)
def b__law_field_row (R : Fs) : SM := (sSeq (sIf (mB (eP notInD (cA (eV 3) (cA (eV 4) cN)))) (sSeq (sAsg (eP ixD (cA (eP ixD (cA (eV 0) (cA (eC (.int 0)) cN))) (cA (eV 3) cN))) (gT 5 (gsC (gN 5) (gsC (gN 6) (gsC (gN 7) (gsC (gN 8) (gsC (gN 9) gsN)))))))
    (sSeq (sAsg (cp__law_field_row_4 R) (gN 10))
    (sSeq (sAsg (eP sumD (cA (cp__law_field_row_3 R) cN)) (gN 11))
    (sSeq (sAsg (eP sumD (cA (cp__law_field_row_2 R) cN)) (gN 12))
    (sSeq (sAsg (eP ixD (cA (eP addD (cA (cp__law_field_row_1 R) (cA (eLst (cA (eV 8) cN)) cN))) (cA (eC (.int 0)) cN))) (gN 13))
    (sSeq (sAsg (eP addD (cA (eP addD (cA (eP addD (cA (eP ixD (cA (eV 1) (cA (eV 3) cN))) (cA (eP ixD (cA (eV 2) (cA (eC (.int 0)) cN))) cN))) (cA (eV 12) cN))) (cA (eV 11) cN))) (gN 14))
    (sSeq (sAsg (eIf (mB (eP gtD (cA (eV 14) (cA (eV 13) cN)))) (eP subD (cA (eV 14) (cA (eV 13) cN))) (eC (.int 0))) (gN 15))
    (sSeq (sAsg (eIf (mB (eP gtD (cA (eP subD (cA (eV 14) (cA (eV 15) cN))) (cA (eV 9) cN)))) (eV 9) (eP subD (cA (eV 14) (cA (eV 15) cN)))) (gN 16))
    (sSeq (sAsg (eIf (mB (eP gtD (cA (eP subD (cA (eP subD (cA (eV 14) (cA (eV 15) cN))) (cA (eV 16) cN))) (cA (eP ixD (cA (eV 2) (cA (eC (.int 1)) cN))) cN)))) (eP ixD (cA (eV 2) (cA (eC (.int 1)) cN))) (eP subD (cA (eP subD (cA (eV 14) (cA (eV 15) cN))) (cA (eV 16) cN)))) (gN 17))
    (sSeq (sAsg (eTup (cA (eP ixD (cA (eV 2) (cA (eC (.int 0)) cN))) (cA (eV 12) (cA (eV 11) (cA (eV 15) (cA (eV 16) (cA (eV 17) (cA (eP subD (cA (eP subD (cA (eP subD (cA (eV 14) (cA (eV 15) cN))) (cA (eV 16) cN))) (cA (eV 17) cN))) cN)))))))) (gS setDk (eV 4) (eV 3)))
    sNil)))))))))) sNil)
    (sSeq (sRet (eP ixD (cA (eV 4) (cA (eV 3) cN))))
    sNil))
def F__law_field_row : Nat → Fs
  | 0 => ⟨fun _ => none, [false, false, false, false, true]⟩
  | n + 1 => ⟨runF [false, false, false, false, true] 21 (b__law_field_row (F__law_field_row n)), [false, false, false, false, true]⟩
theorem fs__law_field_row {g : G0} (h : Hyp g) {R : Fs} {n : Nat} (hR : FnI g "_law_field_row" (1 + n) R) : FnI g "_law_field_row" (1 + n + 1) ⟨runF [false, false, false, false, true] 21 (b__law_field_row R), [false, false, false, false, true]⟩ :=
  fn_rule h.d__law_field_row sc__law_field_row rfl (es_cons (es_if (et_cmp op_notInD' (ee_var (i := 3) rfl (by first | exact .inl rfl | exact .inr (.inl rfl) | exact .inr (.inr rfl)) (by decide) (by decide)) (ee_var (i := 4) rfl (by first | exact .inl rfl | exact .inr (.inl rfl) | exact .inr (.inr rfl)) (by decide) (by decide)) rfl) (es_cons (es_asg (ee_ix (ee_ix (ee_var (i := 0) rfl (by first | exact .inl rfl | exact .inr (.inl rfl) | exact .inr (.inr rfl)) (by decide) (by decide)) ee_int (fun _ _ => rfl)) (ee_var (i := 3) rfl (by first | exact .inl rfl | exact .inr (.inl rfl) | exact .inr (.inr rfl)) (by decide) (by decide)) (fun _ _ => rfl)) (eg_tup (egs_cons (eg_name (i := 5) rfl (by first | exact .inl rfl | exact .inr rfl) (by first | exact .inl rfl | exact .inr rfl)) (egs_cons (eg_name (i := 6) rfl (by first | exact .inl rfl | exact .inr rfl) (by first | exact .inl rfl | exact .inr rfl)) (egs_cons (eg_name (i := 7) rfl (by first | exact .inl rfl | exact .inr rfl) (by first | exact .inl rfl | exact .inr rfl)) (egs_cons (eg_name (i := 8) rfl (by first | exact .inl rfl | exact .inr rfl) (by first | exact .inl rfl | exact .inr rfl)) (egs_cons (eg_name (i := 9) rfl (by first | exact .inl rfl | exact .inr rfl) (by first | exact .inl rfl | exact .inr rfl)) egs_nil (fun _ => rfl)) (fun _ => rfl)) (fun _ => rfl)) (fun _ => rfl)) (fun _ => rfl)) (fun _ => rfl) (fun _ => rfl)) (fun _ => rfl) (fun env he => by cases env; cases he; rfl) (fun _ => rfl))
    (es_cons (es_setLc (i := 10) rfl rfl (fun env he => by cases env; cases he; rfl) (own := [("_law_k", 18), ("_law_row", 19)]) (by first | decide +kernel | (dsimp only; decide +kernel) | rfl) (by decide) (by decide) (ei_enumT rfl h.z_enumerate (ee_ix (ee_var (i := 0) rfl (by first | exact .inl rfl | exact .inr (.inl rfl) | exact .inr (.inr rfl)) (by decide) (by decide)) ee_int (fun _ _ => rfl)) (fun _ _ => rfl)) (eg_tup (egs_cons (eg_name (i := 18) rfl (by first | exact .inl rfl | exact .inr rfl) (by first | exact .inl rfl | exact .inr rfl)) (egs_cons (eg_name (i := 19) rfl (by first | exact .inl rfl | exact .inr rfl) (by first | exact .inl rfl | exact .inr rfl)) egs_nil (fun _ => rfl)) (fun _ => rfl)) (fun _ => rfl) (fun _ => rfl)) (ep_one (et_cmp op_eqD' (ee_ix (ee_var (i := 19) rfl (by first | exact .inl rfl | exact .inr (.inl rfl) | exact .inr (.inr rfl)) (by decide) (by decide)) ee_int (fun _ _ => rfl)) (ee_var (i := 5) rfl (by first | exact .inl rfl | exact .inr (.inl rfl) | exact .inr (.inr rfl)) (by decide) (by decide)) rfl)) (ee_var (i := 18) rfl (by first | exact .inl rfl | exact .inr (.inl rfl) | exact .inr (.inr rfl)) (by decide) (by decide)) (fun _ _ => rfl))
    (es_cons (es_set (i := 11) rfl (by first | exact .inl rfl | exact .inr rfl) (ee_callB ca_sum rfl h.z_sum bt_sum (ea_cons (ee_comp (own := [("_law_k", 18)]) (by first | decide +kernel | (dsimp only; decide +kernel) | rfl) (by decide) (by decide) (ei_list (ee_var (i := 10) rfl (by first | exact .inl rfl | exact .inr (.inl rfl) | exact .inr (.inr rfl)) (by decide) (by decide))) (eg_name (i := 18) rfl (by first | exact .inl rfl | exact .inr rfl) (by first | exact .inl rfl | exact .inr rfl)) ep_nil (ee_ix (ee_callF hR (Nat.le_refl _) rfl (ea_cons (ee_var (i := 0) rfl (by first | exact .inl rfl | exact .inr (.inl rfl) | exact .inr (.inr rfl)) (by decide) (by decide)) (ea_cons (ee_var (i := 1) rfl (by first | exact .inl rfl | exact .inr (.inl rfl) | exact .inr (.inr rfl)) (by decide) (by decide)) (ea_cons (ee_var (i := 2) rfl (by first | exact .inl rfl | exact .inr (.inl rfl) | exact .inr (.inr rfl)) (by decide) (by decide)) (ea_cons (ee_var (i := 18) rfl (by first | exact .inl rfl | exact .inr (.inl rfl) | exact .inr (.inr rfl)) (by decide) (by decide)) (ea_cons (ee_var (i := 4) rfl (by first | exact .inl rfl | exact .inr (.inl rfl) | exact .inr (.inr rfl)) (by decide) (by decide)) ea_nil (fun _ _ => rfl)) (fun _ _ => rfl)) (fun _ _ => rfl)) (fun _ _ => rfl)) (fun _ _ => rfl)) (fun _ _ => rfl) (fun _ => rfl) (by decide)) ee_int (fun _ _ => rfl)) (fun _ _ => rfl)) ea_nil (fun _ _ => rfl)) (fun _ _ => rfl) (fun _ => rfl) (by decide) (by decide)) (fun _ => rfl) (.inl rfl))
    (es_cons (es_set (i := 12) rfl (by first | exact .inl rfl | exact .inr rfl) (ee_callB ca_sum rfl h.z_sum bt_sum (ea_cons (ee_comp (own := [("_law_one", 20)]) (by first | decide +kernel | (dsimp only; decide +kernel) | rfl) (by decide) (by decide) (ei_tup (ee_ix (ee_var (i := 2) rfl (by first | exact .inl rfl | exact .inr (.inl rfl) | exact .inr (.inr rfl)) (by decide) (by decide)) ee_int (fun _ _ => rfl))) (eg_name (i := 20) rfl (by first | exact .inl rfl | exact .inr rfl) (by first | exact .inl rfl | exact .inr rfl)) (ep_one (et_cmp op_eqD' (ee_ix (ee_var (i := 20) rfl (by first | exact .inl rfl | exact .inr (.inl rfl) | exact .inr (.inr rfl)) (by decide) (by decide)) ee_int (fun _ _ => rfl)) (ee_var (i := 5) rfl (by first | exact .inl rfl | exact .inr (.inl rfl) | exact .inr (.inr rfl)) (by decide) (by decide)) rfl)) (ee_ix (ee_var (i := 20) rfl (by first | exact .inl rfl | exact .inr (.inl rfl) | exact .inr (.inr rfl)) (by decide) (by decide)) ee_int (fun _ _ => rfl)) (fun _ _ => rfl)) ea_nil (fun _ _ => rfl)) (fun _ _ => rfl) (fun _ => rfl) (by decide) (by decide)) (fun _ => rfl) (.inl rfl))
    (es_cons (es_set (i := 13) rfl (by first | exact .inl rfl | exact .inr rfl) (ee_ix (ee_bin op_addD (ee_comp (own := [("_law_one", 20)]) (by first | decide +kernel | (dsimp only; decide +kernel) | rfl) (by decide) (by decide) (ei_tup (ee_ix (ee_var (i := 2) rfl (by first | exact .inl rfl | exact .inr (.inl rfl) | exact .inr (.inr rfl)) (by decide) (by decide)) ee_int (fun _ _ => rfl))) (eg_name (i := 20) rfl (by first | exact .inl rfl | exact .inr rfl) (by first | exact .inl rfl | exact .inr rfl)) (ep_one (et_cmp op_eqD' (ee_ix (ee_var (i := 20) rfl (by first | exact .inl rfl | exact .inr (.inl rfl) | exact .inr (.inr rfl)) (by decide) (by decide)) ee_int (fun _ _ => rfl)) (ee_var (i := 5) rfl (by first | exact .inl rfl | exact .inr (.inl rfl) | exact .inr (.inr rfl)) (by decide) (by decide)) rfl)) (ee_ix (ee_var (i := 20) rfl (by first | exact .inl rfl | exact .inr (.inl rfl) | exact .inr (.inr rfl)) (by decide) (by decide)) ee_int (fun _ _ => rfl)) (fun _ _ => rfl)) (ee_lst (ea_cons (ee_var (i := 8) rfl (by first | exact .inl rfl | exact .inr (.inl rfl) | exact .inr (.inr rfl)) (by decide) (by decide)) ea_nil (fun _ _ => rfl)))) ee_int (fun _ _ => rfl)) (fun _ => rfl) (.inl rfl))
    (es_cons (es_set (i := 14) rfl (by first | exact .inl rfl | exact .inr rfl) (ee_bin op_addD (ee_bin op_addD (ee_bin op_addD (ee_ix (ee_var (i := 1) rfl (by first | exact .inl rfl | exact .inr (.inl rfl) | exact .inr (.inr rfl)) (by decide) (by decide)) (ee_var (i := 3) rfl (by first | exact .inl rfl | exact .inr (.inl rfl) | exact .inr (.inr rfl)) (by decide) (by decide)) (fun _ _ => rfl)) (ee_ix (ee_var (i := 2) rfl (by first | exact .inl rfl | exact .inr (.inl rfl) | exact .inr (.inr rfl)) (by decide) (by decide)) ee_int (fun _ _ => rfl))) (ee_var (i := 12) rfl (by first | exact .inl rfl | exact .inr (.inl rfl) | exact .inr (.inr rfl)) (by decide) (by decide))) (ee_var (i := 11) rfl (by first | exact .inl rfl | exact .inr (.inl rfl) | exact .inr (.inr rfl)) (by decide) (by decide))) (fun _ => rfl) (.inl rfl))
    (es_cons (es_set (i := 15) rfl (by first | exact .inl rfl | exact .inr rfl) (ee_if (et_cmp op_gtD (ee_var (i := 14) rfl (by first | exact .inl rfl | exact .inr (.inl rfl) | exact .inr (.inr rfl)) (by decide) (by decide)) (ee_var (i := 13) rfl (by first | exact .inl rfl | exact .inr (.inl rfl) | exact .inr (.inr rfl)) (by decide) (by decide)) rfl) (ee_bin op_subD (ee_var (i := 14) rfl (by first | exact .inl rfl | exact .inr (.inl rfl) | exact .inr (.inr rfl)) (by decide) (by decide)) (ee_var (i := 13) rfl (by first | exact .inl rfl | exact .inr (.inl rfl) | exact .inr (.inr rfl)) (by decide) (by decide))) ee_int) (fun _ => rfl) (.inl rfl))
    (es_cons (es_set (i := 16) rfl (by first | exact .inl rfl | exact .inr rfl) (ee_if (et_cmp op_gtD (ee_bin op_subD (ee_var (i := 14) rfl (by first | exact .inl rfl | exact .inr (.inl rfl) | exact .inr (.inr rfl)) (by decide) (by decide)) (ee_var (i := 15) rfl (by first | exact .inl rfl | exact .inr (.inl rfl) | exact .inr (.inr rfl)) (by decide) (by decide))) (ee_var (i := 9) rfl (by first | exact .inl rfl | exact .inr (.inl rfl) | exact .inr (.inr rfl)) (by decide) (by decide)) rfl) (ee_var (i := 9) rfl (by first | exact .inl rfl | exact .inr (.inl rfl) | exact .inr (.inr rfl)) (by decide) (by decide)) (ee_bin op_subD (ee_var (i := 14) rfl (by first | exact .inl rfl | exact .inr (.inl rfl) | exact .inr (.inr rfl)) (by decide) (by decide)) (ee_var (i := 15) rfl (by first | exact .inl rfl | exact .inr (.inl rfl) | exact .inr (.inr rfl)) (by decide) (by decide)))) (fun _ => rfl) (.inl rfl))
    (es_cons (es_set (i := 17) rfl (by first | exact .inl rfl | exact .inr rfl) (ee_if (et_cmp op_gtD (ee_bin op_subD (ee_bin op_subD (ee_var (i := 14) rfl (by first | exact .inl rfl | exact .inr (.inl rfl) | exact .inr (.inr rfl)) (by decide) (by decide)) (ee_var (i := 15) rfl (by first | exact .inl rfl | exact .inr (.inl rfl) | exact .inr (.inr rfl)) (by decide) (by decide))) (ee_var (i := 16) rfl (by first | exact .inl rfl | exact .inr (.inl rfl) | exact .inr (.inr rfl)) (by decide) (by decide))) (ee_ix (ee_var (i := 2) rfl (by first | exact .inl rfl | exact .inr (.inl rfl) | exact .inr (.inr rfl)) (by decide) (by decide)) ee_int (fun _ _ => rfl)) rfl) (ee_ix (ee_var (i := 2) rfl (by first | exact .inl rfl | exact .inr (.inl rfl) | exact .inr (.inr rfl)) (by decide) (by decide)) ee_int (fun _ _ => rfl)) (ee_bin op_subD (ee_bin op_subD (ee_var (i := 14) rfl (by first | exact .inl rfl | exact .inr (.inl rfl) | exact .inr (.inr rfl)) (by decide) (by decide)) (ee_var (i := 15) rfl (by first | exact .inl rfl | exact .inr (.inl rfl) | exact .inr (.inr rfl)) (by decide) (by decide))) (ee_var (i := 16) rfl (by first | exact .inl rfl | exact .inr (.inl rfl) | exact .inr (.inr rfl)) (by decide) (by decide)))) (fun _ => rfl) (.inl rfl))
    (es_cons (es_asg (ee_tup (ea_cons (ee_ix (ee_var (i := 2) rfl (by first | exact .inl rfl | exact .inr (.inl rfl) | exact .inr (.inr rfl)) (by decide) (by decide)) ee_int (fun _ _ => rfl)) (ea_cons (ee_var (i := 12) rfl (by first | exact .inl rfl | exact .inr (.inl rfl) | exact .inr (.inr rfl)) (by decide) (by decide)) (ea_cons (ee_var (i := 11) rfl (by first | exact .inl rfl | exact .inr (.inl rfl) | exact .inr (.inr rfl)) (by decide) (by decide)) (ea_cons (ee_var (i := 15) rfl (by first | exact .inl rfl | exact .inr (.inl rfl) | exact .inr (.inr rfl)) (by decide) (by decide)) (ea_cons (ee_var (i := 16) rfl (by first | exact .inl rfl | exact .inr (.inl rfl) | exact .inr (.inr rfl)) (by decide) (by decide)) (ea_cons (ee_var (i := 17) rfl (by first | exact .inl rfl | exact .inr (.inl rfl) | exact .inr (.inr rfl)) (by decide) (by decide)) (ea_cons (ee_bin op_subD (ee_bin op_subD (ee_bin op_subD (ee_var (i := 14) rfl (by first | exact .inl rfl | exact .inr (.inl rfl) | exact .inr (.inr rfl)) (by decide) (by decide)) (ee_var (i := 15) rfl (by first | exact .inl rfl | exact .inr (.inl rfl) | exact .inr (.inr rfl)) (by decide) (by decide))) (ee_var (i := 16) rfl (by first | exact .inl rfl | exact .inr (.inl rfl) | exact .inr (.inr rfl)) (by decide) (by decide))) (ee_var (i := 17) rfl (by first | exact .inl rfl | exact .inr (.inl rfl) | exact .inr (.inr rfl)) (by decide) (by decide))) ea_nil (fun _ _ => rfl)) (fun _ _ => rfl)) (fun _ _ => rfl)) (fun _ _ => rfl)) (fun _ _ => rfl)) (fun _ _ => rfl)) (fun _ _ => rfl))) (eg_sub se_any (ee_var (i := 4) rfl (by first | exact .inl rfl | exact .inr (.inl rfl) | exact .inr (.inr rfl)) (by decide) (by decide)) (ee_var (i := 3) rfl (by first | exact .inl rfl | exact .inr (.inl rfl) | exact .inr (.inr rfl)) (by decide) (by decide)) (fun _ _ => rfl)) (fun _ => rfl) (fun env he => by cases env; cases he; rfl) (fun _ => rfl))
    es_nil)))))))))) es_nil)
    (es_cons (es_ret (ee_ix (ee_var (i := 4) rfl (by first | exact .inl rfl | exact .inr (.inl rfl) | exact .inr (.inr rfl)) (by decide) (by decide)) (ee_var (i := 3) rfl (by first | exact .inl rfl | exact .inr (.inl rfl) | exact .inr (.inr rfl)) (by decide) (by decide)) (fun _ _ => rfl)))
    es_nil))
theorem fn__law_field_row {g : G0} (h : Hyp g) : ∀ n, FnI g "_law_field_row" (1 + n) (F__law_field_row n)
  | 0 => fn_none h.d__law_field_row _ _
  | n + 1 => fs__law_field_row h (fn__law_field_row h n)
theorem sc__law_day : FnScope ["_law_terrace_here", "_law_stand", "_law_doings", "_law_found", "_law_place"] ["_law_terrace_here", "_law_stand", "_law_doings"] (defScope s__law_day) := ⟨rfl, rfl, rfl, by decide +kernel, rfl, by decide +kernel, by decide +kernel⟩
def ce__law_day_1 : M Vl := (eCallF (F__law_field_row 9) (cA (eV 0) (cA (eV 1) (cA (eV 2) (cA (eV 4) (cA (eV 3) cN))))))
def cp__law_day_1 : M Vl := eComp [4] (mR1 (cA (eP lenD (cA (eP ixD (cA (eV 0) (cA (eC (.int 0)) cN))) cN)) cN)) (gN 4) (rt true) ce__law_day_1
def b__law_day : SM := (sSeq (sAsg eDk (gN 3))
    (sSeq (sRet cp__law_day_1)
    sNil))
def F__law_day : Fs := ⟨runF [false, false, false] 5 b__law_day, [false, false, false]⟩
theorem sem__law_day (ds : List D) : F__law_day.sem ds = runF [false, false, false] 5 b__law_day ds := rfl
theorem sig__law_day : F__law_day.sig = [false, false, false] := rfl
theorem fn__law_day {g : G0} (h : Hyp g) : FnI g "_law_day" 11 F__law_day :=
  fn_rule h.d__law_day sc__law_day rfl (es_cons (es_set (i := 3) rfl (by first | exact .inl rfl | exact .inr rfl) ee_dk (fun _ => rfl) (.inl rfl))
    (es_cons (es_ret (ee_comp (own := [("_law_place", 4)]) (by first | decide +kernel | (dsimp only; decide +kernel) | rfl) (by decide) (by decide) (ei_r1 rfl h.z_range (ea_cons (ee_callB ca_len rfl h.z_len bt_len (ea_cons (ee_ix (ee_var (i := 0) rfl (by first | exact .inl rfl | exact .inr (.inl rfl) | exact .inr (.inr rfl)) (by decide) (by decide)) ee_int (fun _ _ => rfl)) ea_nil (fun _ _ => rfl)) (fun _ _ => rfl) (fun _ => rfl) (by decide) (by decide)) ea_nil (fun _ _ => rfl)) (fun _ _ => rfl)) (eg_name (i := 4) rfl (by first | exact .inl rfl | exact .inr rfl) (by first | exact .inl rfl | exact .inr rfl)) ep_nil (ee_callF (fn__law_field_row h 9) (by decide) rfl (ea_cons (ee_var (i := 0) rfl (by first | exact .inl rfl | exact .inr (.inl rfl) | exact .inr (.inr rfl)) (by decide) (by decide)) (ea_cons (ee_var (i := 1) rfl (by first | exact .inl rfl | exact .inr (.inl rfl) | exact .inr (.inr rfl)) (by decide) (by decide)) (ea_cons (ee_var (i := 2) rfl (by first | exact .inl rfl | exact .inr (.inl rfl) | exact .inr (.inr rfl)) (by decide) (by decide)) (ea_cons (ee_var (i := 4) rfl (by first | exact .inl rfl | exact .inr (.inl rfl) | exact .inr (.inr rfl)) (by decide) (by decide)) (ea_cons (ee_var (i := 3) rfl (by first | exact .inl rfl | exact .inr (.inl rfl) | exact .inr (.inr rfl)) (by decide) (by decide)) ea_nil (fun _ _ => rfl)) (fun _ _ => rfl)) (fun _ _ => rfl)) (fun _ _ => rfl)) (fun _ _ => rfl)) (fun _ _ => rfl) (fun _ => rfl) (by decide)) (fun _ _ => rfl)))
    es_nil))
theorem sc__law_right : FnScope ["_law_left_here", "_law_big", "_law_terrace_here", "_law_way", "_law_spot", "_law_stand", "_law_place", "_law_row", "_law_quiet", "_law_rows", "_law_second", "_law_above", "_law_here", "_law_field"] ["_law_left_here", "_law_big"] (defScope s__law_right) := ⟨rfl, rfl, rfl, by decide +kernel, rfl, by decide +kernel, by decide +kernel⟩
def ce__law_right_1 : M Vl := (eP ixD (cA (eV 7) (cA (eC (.int 6)) cN)))
def cp__law_right_1 : M Vl := eComp [7] (mLst (eV 9)) (gN 7) (rt true) ce__law_right_1
def ce__law_right_2 : M Vl := (eP neD (cA (eSl (eV 7) oN (oS (eC (.int 4)))) (cA (eTup (cA (eC (.int 0)) (cA (eC (.int 0)) (cA (eC (.int 0)) (cA (eC (.int 0)) cN))))) cN)))
def cp__law_right_2 : M Vl := eComp [7] (mLst (eV 10)) (gN 7) (rt true) ce__law_right_2
def ce__law_right_3 : M Vl := (eP leD (cA (eP sumTD (cA (eSl (eV 7) (oS (eC (.int 4))) oN) cN)) (cA (eP ixD (cA (eV 13) (cA (eC (.int 3)) cN))) cN)))
def cp__law_right_3 : M Vl := eComp [13, 7] (mZipM (cA (eP ixD (cA (eV 2) (cA (eC (.int 0)) cN))) (cA (eV 9) cN))) (gT 2 (gsC (gN 13) (gsC (gN 7) gsN))) (rt true) ce__law_right_3
def fb__law_right_4 : SM := (sSeq (sAsg (eP addD (cA (eP ixD (cA (eV 7) (cA (eC (.int 3)) cN))) (cA (eP ixD (cA (eLst (cA (eC (.int 0)) (cA (eC (.int 1)) (cA (eCallF F__law_pick (cA (eV 0) (cA (eC (.int 500)) cN))) (cA (eP subD (cA (eC (.int 99999)) (cA (eP ixD (cA (eV 7) (cA (eC (.int 3)) cN))) cN))) cN))))) (cA (eCallF F__law_pick (cA (eV 0) (cA (eC (.int 4)) cN))) cN))) cN))) (gN 11))
    (sSeq (sAsg (eP ixD (cA (eLst (cA (eP eqD (cA (eV 6) (cA (eV 4) cN))) (cA (eP eqD (cA (eCallF F__law_pick (cA (eV 0) (cA (eC (.int 2)) cN))) (cA (eC (.int 0)) cN))) (cA (eC (.bl true)) cN)))) (cA (eV 3) cN))) (gN 12))
    (sSeq (sExp (eU "list" appendD (eV 5) (cA (eIf (mB (eV 12)) (eV 11) (eCallF F__law_pick (cA (eV 0) (cA (eP addD (cA (eP ixD (cA (eV 7) (cA (eC (.int 3)) cN))) (cA (eC (.int 1)) cN))) cN)))) cN)))
    sNil)))
def fl__law_right_4 : SM := sFor (mEnumT (eP ixD (cA (eV 2) (cA (eC (.int 0)) cN)))) (gT 2 (gsC (gN 6) (gsC (gN 7) gsN))) fb__law_right_4
def b__law_right : SM := (sSeq (sPF 2 3 (eCallF F__law_terrace (cA (eV 0) (cA (eV 1) cN))) (eCallF F__law_pick (cA (eV 0) (cA (eC (.int 3)) cN))))
    (sSeq (sPF 4 5 (eCallF F__law_pick (cA (eV 0) (cA (eP lenD (cA (eP ixD (cA (eV 2) (cA (eC (.int 0)) cN))) cN)) cN))) (eLst cN))
    (sSeq fl__law_right_4
    (sSeq (sAsg (eTup (cA (eC (.int 0)) (cA (eP ixD (cA (eLst (cA (eC (.int 0)) (cA (eCallF F__law_pick (cA (eV 0) (cA (eC (.int 100)) cN))) cN))) (cA (eCallF F__law_pick (cA (eV 0) (cA (eC (.int 2)) cN))) cN))) (cA (eTup cN) (cA (eTupB cN) cN))))) (gN 8))
    (sSeq (sAsg (eCallF F_day_of (cA (eV 2) (cA (eP tupleD (cA (eV 5) cN)) (cA (eV 8) cN)))) (gN 9))
    (sSeq (sIf (mNot (mB (eCallF F__law_same (cA (eV 9) (cA (eCallF F__law_day (cA (eV 2) (cA (eP tupleD (cA (eV 5) cN)) (cA (eV 8) cN)))) cN))))) (sSeq (sRet (eC (.bl false)))
    sNil) sNil)
    (sSeq (sIf (mTmp (mNot (mB (eP allD (cA cp__law_right_3 cN))))) (sSeq (sRet (eC (.bl false)))
    sNil) sNil)
    (sSeq (sIf (mB (eP ltD (cA (eP ixD (cA (eP ixD (cA (eV 9) (cA (eV 4) cN))) (cA (eC (.int 3)) cN))) (cA (eP subD (cA (eP ixD (cA (eV 5) (cA (eV 4) cN))) (cA (eP ixD (cA (eP ixD (cA (eP ixD (cA (eV 2) (cA (eC (.int 0)) cN))) (cA (eV 4) cN))) (cA (eC (.int 3)) cN))) cN))) cN)))) (sSeq (sRet (eC (.bl false)))
    sNil) sNil)
    (sSeq (sAsg (eCallF F_day_of (cA (eV 2) (cA (eCallF F_stand_of (cA (eV 9) cN)) (cA (eV 8) cN)))) (gN 10))
    (sSeq (sIf (mTmp (mB (eP anyD (cA cp__law_right_2 cN)))) (sSeq (sRet (eC (.bl false)))
    sNil) sNil)
    (sSeq (sRet (eCallF F__law_same (cA (eV 10) (cA (eCallF F__law_day (cA (eV 2) (cA (eP tupleD (cA cp__law_right_1 cN)) (cA (eV 8) cN)))) cN))))
    sNil)))))))))))
def F__law_right : Fs := ⟨runF [true, false] 14 b__law_right, [true, false]⟩
theorem sem__law_right (ds : List D) : F__law_right.sem ds = runF [true, false] 14 b__law_right ds := rfl
theorem sig__law_right : F__law_right.sig = [true, false] := rfl
theorem fn__law_right {g : G0} (h : Hyp g) : FnI g "_law_right" 12 F__law_right :=
  fn_rule h.d__law_right sc__law_right rfl (es_cons (es_pf (i := 2) (j := 3) rfl rfl (by decide) rfl rfl (ee_callF (fn__law_terrace h) (by decide) rfl (ea_cons (ee_var (i := 0) rfl (by first | exact .inl rfl | exact .inr (.inl rfl) | exact .inr (.inr rfl)) (by decide) (by decide)) (ea_cons (ee_var (i := 1) rfl (by first | exact .inl rfl | exact .inr (.inl rfl) | exact .inr (.inr rfl)) (by decide) (by decide)) ea_nil (fun _ _ => rfl)) (fun _ _ => rfl)) (fun _ _ => rfl) (fun _ => rfl) (by decide)) (ee_callF (fn__law_pick h) (by decide) rfl (ea_cons (ee_var (i := 0) rfl (by first | exact .inl rfl | exact .inr (.inl rfl) | exact .inr (.inr rfl)) (by decide) (by decide)) (ea_cons ee_int ea_nil (fun _ _ => rfl)) (fun _ _ => rfl)) (fun _ _ => rfl) (fun _ => rfl) (by decide)) (fun _ _ => rfl) (fun _ _ => rfl) (fun env he => by cases env; cases he; rfl) (fun _ => rfl))
    (es_cons (es_pf (i := 4) (j := 5) rfl rfl (by decide) rfl rfl (ee_callF (fn__law_pick h) (by decide) rfl (ea_cons (ee_var (i := 0) rfl (by first | exact .inl rfl | exact .inr (.inl rfl) | exact .inr (.inr rfl)) (by decide) (by decide)) (ea_cons (ee_callB ca_len rfl h.z_len bt_len (ea_cons (ee_ix (ee_var (i := 2) rfl (by first | exact .inl rfl | exact .inr (.inl rfl) | exact .inr (.inr rfl)) (by decide) (by decide)) ee_int (fun _ _ => rfl)) ea_nil (fun _ _ => rfl)) (fun _ _ => rfl) (fun _ => rfl) (by decide) (by decide)) ea_nil (fun _ _ => rfl)) (fun _ _ => rfl)) (fun _ _ => rfl) (fun _ => rfl) (by decide)) (ee_lst ea_nil) (fun _ _ => rfl) (fun _ _ => rfl) (fun env he => by cases env; cases he; rfl) (fun _ => rfl))
    (es_cons (es_for (ei_enumT rfl h.z_enumerate (ee_ix (ee_var (i := 2) rfl (by first | exact .inl rfl | exact .inr (.inl rfl) | exact .inr (.inr rfl)) (by decide) (by decide)) ee_int (fun _ _ => rfl)) (fun _ _ => rfl)) (eg_tup (egs_cons (eg_name (i := 6) rfl (by first | exact .inl rfl | exact .inr rfl) (by first | exact .inl rfl | exact .inr rfl)) (egs_cons (eg_name (i := 7) rfl (by first | exact .inl rfl | exact .inr rfl) (by first | exact .inl rfl | exact .inr rfl)) egs_nil (fun _ => rfl)) (fun _ => rfl)) (fun _ => rfl) (fun _ => rfl)) (es_cons (es_set (i := 11) rfl (by first | exact .inl rfl | exact .inr rfl) (ee_bin op_addD (ee_ix (ee_var (i := 7) rfl (by first | exact .inl rfl | exact .inr (.inl rfl) | exact .inr (.inr rfl)) (by decide) (by decide)) ee_int (fun _ _ => rfl)) (ee_ix (ee_lst (ea_cons ee_int (ea_cons ee_int (ea_cons (ee_callF (fn__law_pick h) (by decide) rfl (ea_cons (ee_var (i := 0) rfl (by first | exact .inl rfl | exact .inr (.inl rfl) | exact .inr (.inr rfl)) (by decide) (by decide)) (ea_cons ee_int ea_nil (fun _ _ => rfl)) (fun _ _ => rfl)) (fun _ _ => rfl) (fun _ => rfl) (by decide)) (ea_cons (ee_bin op_subD ee_int (ee_ix (ee_var (i := 7) rfl (by first | exact .inl rfl | exact .inr (.inl rfl) | exact .inr (.inr rfl)) (by decide) (by decide)) ee_int (fun _ _ => rfl))) ea_nil (fun _ _ => rfl)) (fun _ _ => rfl)) (fun _ _ => rfl)) (fun _ _ => rfl))) (ee_callF (fn__law_pick h) (by decide) rfl (ea_cons (ee_var (i := 0) rfl (by first | exact .inl rfl | exact .inr (.inl rfl) | exact .inr (.inr rfl)) (by decide) (by decide)) (ea_cons ee_int ea_nil (fun _ _ => rfl)) (fun _ _ => rfl)) (fun _ _ => rfl) (fun _ => rfl) (by decide)) (fun _ _ => rfl))) (fun _ => rfl) (.inl rfl))
    (es_cons (es_set (i := 12) rfl (by first | exact .inl rfl | exact .inr rfl) (ee_ix (ee_lst (ea_cons (ee_cmp op_eqD' (ee_var (i := 6) rfl (by first | exact .inl rfl | exact .inr (.inl rfl) | exact .inr (.inr rfl)) (by decide) (by decide)) (ee_var (i := 4) rfl (by first | exact .inl rfl | exact .inr (.inl rfl) | exact .inr (.inr rfl)) (by decide) (by decide)) rfl) (ea_cons (ee_cmp op_eqD' (ee_callF (fn__law_pick h) (by decide) rfl (ea_cons (ee_var (i := 0) rfl (by first | exact .inl rfl | exact .inr (.inl rfl) | exact .inr (.inr rfl)) (by decide) (by decide)) (ea_cons ee_int ea_nil (fun _ _ => rfl)) (fun _ _ => rfl)) (fun _ _ => rfl) (fun _ => rfl) (by decide)) ee_int rfl) (ea_cons ee_bl ea_nil (fun _ _ => rfl)) (fun _ _ => rfl)) (fun _ _ => rfl))) (ee_var (i := 3) rfl (by first | exact .inl rfl | exact .inr (.inl rfl) | exact .inr (.inr rfl)) (by decide) (by decide)) (fun _ _ => rfl)) (fun _ => rfl) (.inl rfl))
    (es_cons (es_exp (ee_mut mu_append (ee_var (i := 5) rfl (by first | exact .inl rfl | exact .inr (.inl rfl) | exact .inr (.inr rfl)) (by decide) (by decide)) (ea_cons (ee_if (et_val (ee_var (i := 12) rfl (by first | exact .inl rfl | exact .inr (.inl rfl) | exact .inr (.inr rfl)) (by decide) (by decide)) (fun _ _ => rfl)) (ee_var (i := 11) rfl (by first | exact .inl rfl | exact .inr (.inl rfl) | exact .inr (.inr rfl)) (by decide) (by decide)) (ee_callF (fn__law_pick h) (by decide) rfl (ea_cons (ee_var (i := 0) rfl (by first | exact .inl rfl | exact .inr (.inl rfl) | exact .inr (.inr rfl)) (by decide) (by decide)) (ea_cons (ee_bin op_addD (ee_ix (ee_var (i := 7) rfl (by first | exact .inl rfl | exact .inr (.inl rfl) | exact .inr (.inr rfl)) (by decide) (by decide)) ee_int (fun _ _ => rfl)) ee_int) ea_nil (fun _ _ => rfl)) (fun _ _ => rfl)) (fun _ _ => rfl) (fun _ => rfl) (by decide))) ea_nil (fun _ _ => rfl)) (fun _ _ => rfl) (fun _ => rfl) (fun _ => rfl) rfl (fun _ => rfl)) (fun _ => rfl))
    es_nil))) (fun _ _ => rfl))
    (es_cons (es_set (i := 8) rfl (by first | exact .inl rfl | exact .inr rfl) (ee_tup (ea_cons ee_int (ea_cons (ee_ix (ee_lst (ea_cons ee_int (ea_cons (ee_callF (fn__law_pick h) (by decide) rfl (ea_cons (ee_var (i := 0) rfl (by first | exact .inl rfl | exact .inr (.inl rfl) | exact .inr (.inr rfl)) (by decide) (by decide)) (ea_cons ee_int ea_nil (fun _ _ => rfl)) (fun _ _ => rfl)) (fun _ _ => rfl) (fun _ => rfl) (by decide)) ea_nil (fun _ _ => rfl)) (fun _ _ => rfl))) (ee_callF (fn__law_pick h) (by decide) rfl (ea_cons (ee_var (i := 0) rfl (by first | exact .inl rfl | exact .inr (.inl rfl) | exact .inr (.inr rfl)) (by decide) (by decide)) (ea_cons ee_int ea_nil (fun _ _ => rfl)) (fun _ _ => rfl)) (fun _ _ => rfl) (fun _ => rfl) (by decide)) (fun _ _ => rfl)) (ea_cons (ee_tup ea_nil) (ea_cons (ee_tupB ea_nil) ea_nil (fun _ _ => rfl)) (fun _ _ => rfl)) (fun _ _ => rfl)) (fun _ _ => rfl))) (fun _ => rfl) (.inl rfl))
    (es_cons (es_set (i := 9) rfl (by first | exact .inl rfl | exact .inr rfl) (ee_callF (fn_day_of h) (by decide) rfl (ea_cons (ee_var (i := 2) rfl (by first | exact .inl rfl | exact .inr (.inl rfl) | exact .inr (.inr rfl)) (by decide) (by decide)) (ea_cons (ee_callTy ca_tuple rfl h.z_tuple bt_tuple (ea_cons (ee_var (i := 5) rfl (by first | exact .inl rfl | exact .inr (.inl rfl) | exact .inr (.inr rfl)) (by decide) (by decide)) ea_nil (fun _ _ => rfl)) (fun _ _ => rfl) (fun _ => rfl) (by decide) (by decide)) (ea_cons (ee_var (i := 8) rfl (by first | exact .inl rfl | exact .inr (.inl rfl) | exact .inr (.inr rfl)) (by decide) (by decide)) ea_nil (fun _ _ => rfl)) (fun _ _ => rfl)) (fun _ _ => rfl)) (fun _ _ => rfl) (fun _ => rfl) (by decide)) (fun _ => rfl) (.inl rfl))
    (es_cons (es_if (et_not (et_val (ee_callF (fn__law_same h) (by decide) rfl (ea_cons (ee_var (i := 9) rfl (by first | exact .inl rfl | exact .inr (.inl rfl) | exact .inr (.inr rfl)) (by decide) (by decide)) (ea_cons (ee_callF (fn__law_day h) (by decide) rfl (ea_cons (ee_var (i := 2) rfl (by first | exact .inl rfl | exact .inr (.inl rfl) | exact .inr (.inr rfl)) (by decide) (by decide)) (ea_cons (ee_callTy ca_tuple rfl h.z_tuple bt_tuple (ea_cons (ee_var (i := 5) rfl (by first | exact .inl rfl | exact .inr (.inl rfl) | exact .inr (.inr rfl)) (by decide) (by decide)) ea_nil (fun _ _ => rfl)) (fun _ _ => rfl) (fun _ => rfl) (by decide) (by decide)) (ea_cons (ee_var (i := 8) rfl (by first | exact .inl rfl | exact .inr (.inl rfl) | exact .inr (.inr rfl)) (by decide) (by decide)) ea_nil (fun _ _ => rfl)) (fun _ _ => rfl)) (fun _ _ => rfl)) (fun _ _ => rfl) (fun _ => rfl) (by decide)) ea_nil (fun _ _ => rfl)) (fun _ _ => rfl)) (fun _ _ => rfl) (fun _ => rfl) (by decide)) (fun _ _ => rfl))) (es_cons (es_ret ee_bl)
    es_nil) es_nil)
    (es_cons (es_if (et_tmp (et_not (et_val (ee_callB ca_all rfl h.z_all bt_all (ea_cons (ee_comp (own := [("_law_field", 13), ("_law_row", 7)]) (by first | decide +kernel | (dsimp only; decide +kernel) | rfl) (by decide) (by decide) (ei_zipM rfl h.z_zip (ea_cons (ee_ix (ee_var (i := 2) rfl (by first | exact .inl rfl | exact .inr (.inl rfl) | exact .inr (.inr rfl)) (by decide) (by decide)) ee_int (fun _ _ => rfl)) (ea_cons (ee_var (i := 9) rfl (by first | exact .inl rfl | exact .inr (.inl rfl) | exact .inr (.inr rfl)) (by decide) (by decide)) ea_nil (fun _ _ => rfl)) (fun _ _ => rfl)) (fun _ _ => rfl) (fun _ _ => rfl)) (eg_tup (egs_cons (eg_name (i := 13) rfl (by first | exact .inl rfl | exact .inr rfl) (by first | exact .inl rfl | exact .inr rfl)) (egs_cons (eg_name (i := 7) rfl (by first | exact .inl rfl | exact .inr rfl) (by first | exact .inl rfl | exact .inr rfl)) egs_nil (fun _ => rfl)) (fun _ => rfl)) (fun _ => rfl) (fun _ => rfl)) ep_nil (ee_cmp op_leD (ee_callB ca_sumT rfl h.z_sum bt_sum (ea_cons (ee_sl (ee_var (i := 7) rfl (by first | exact .inl rfl | exact .inr (.inl rfl) | exact .inr (.inr rfl)) (by decide) (by decide)) (eo_some ee_int) eo_none) ea_nil (fun _ _ => rfl)) (fun _ _ => rfl) (fun _ => rfl) (by decide) (by decide)) (ee_ix (ee_var (i := 13) rfl (by first | exact .inl rfl | exact .inr (.inl rfl) | exact .inr (.inr rfl)) (by decide) (by decide)) ee_int (fun _ _ => rfl)) rfl) (fun _ _ => rfl)) ea_nil (fun _ _ => rfl)) (fun _ _ => rfl) (fun _ => rfl) (by decide) (by decide)) (fun _ _ => rfl)))) (es_cons (es_ret ee_bl)
    es_nil) es_nil)
    (es_cons (es_if (et_cmp op_ltD (ee_ix (ee_ix (ee_var (i := 9) rfl (by first | exact .inl rfl | exact .inr (.inl rfl) | exact .inr (.inr rfl)) (by decide) (by decide)) (ee_var (i := 4) rfl (by first | exact .inl rfl | exact .inr (.inl rfl) | exact .inr (.inr rfl)) (by decide) (by decide)) (fun _ _ => rfl)) ee_int (fun _ _ => rfl)) (ee_bin op_subD (ee_ix (ee_var (i := 5) rfl (by first | exact .inl rfl | exact .inr (.inl rfl) | exact .inr (.inr rfl)) (by decide) (by decide)) (ee_var (i := 4) rfl (by first | exact .inl rfl | exact .inr (.inl rfl) | exact .inr (.inr rfl)) (by decide) (by decide)) (fun _ _ => rfl)) (ee_ix (ee_ix (ee_ix (ee_var (i := 2) rfl (by first | exact .inl rfl | exact .inr (.inl rfl) | exact .inr (.inr rfl)) (by decide) (by decide)) ee_int (fun _ _ => rfl)) (ee_var (i := 4) rfl (by first | exact .inl rfl | exact .inr (.inl rfl) | exact .inr (.inr rfl)) (by decide) (by decide)) (fun _ _ => rfl)) ee_int (fun _ _ => rfl))) rfl) (es_cons (es_ret ee_bl)
    es_nil) es_nil)
    (es_cons (es_set (i := 10) rfl (by first | exact .inl rfl | exact .inr rfl) (ee_callF (fn_day_of h) (by decide) rfl (ea_cons (ee_var (i := 2) rfl (by first | exact .inl rfl | exact .inr (.inl rfl) | exact .inr (.inr rfl)) (by decide) (by decide)) (ea_cons (ee_callF (fn_stand_of h) (by decide) rfl (ea_cons (ee_var (i := 9) rfl (by first | exact .inl rfl | exact .inr (.inl rfl) | exact .inr (.inr rfl)) (by decide) (by decide)) ea_nil (fun _ _ => rfl)) (fun _ _ => rfl) (fun _ => rfl) (by decide)) (ea_cons (ee_var (i := 8) rfl (by first | exact .inl rfl | exact .inr (.inl rfl) | exact .inr (.inr rfl)) (by decide) (by decide)) ea_nil (fun _ _ => rfl)) (fun _ _ => rfl)) (fun _ _ => rfl)) (fun _ _ => rfl) (fun _ => rfl) (by decide)) (fun _ => rfl) (.inl rfl))
    (es_cons (es_if (et_tmp (et_val (ee_callB ca_any rfl h.z_any bt_any (ea_cons (ee_comp (own := [("_law_row", 7)]) (by first | decide +kernel | (dsimp only; decide +kernel) | rfl) (by decide) (by decide) (ei_list (ee_var (i := 10) rfl (by first | exact .inl rfl | exact .inr (.inl rfl) | exact .inr (.inr rfl)) (by decide) (by decide))) (eg_name (i := 7) rfl (by first | exact .inl rfl | exact .inr rfl) (by first | exact .inl rfl | exact .inr rfl)) ep_nil (ee_cmp op_neD' (ee_sl (ee_var (i := 7) rfl (by first | exact .inl rfl | exact .inr (.inl rfl) | exact .inr (.inr rfl)) (by decide) (by decide)) eo_none (eo_some ee_int)) (ee_tup (ea_cons ee_int (ea_cons ee_int (ea_cons ee_int (ea_cons ee_int ea_nil (fun _ _ => rfl)) (fun _ _ => rfl)) (fun _ _ => rfl)) (fun _ _ => rfl))) rfl) (fun _ _ => rfl)) ea_nil (fun _ _ => rfl)) (fun _ _ => rfl) (fun _ => rfl) (by decide) (by decide)) (fun _ _ => rfl))) (es_cons (es_ret ee_bl)
    es_nil) es_nil)
    (es_cons (es_ret (ee_callF (fn__law_same h) (by decide) rfl (ea_cons (ee_var (i := 10) rfl (by first | exact .inl rfl | exact .inr (.inl rfl) | exact .inr (.inr rfl)) (by decide) (by decide)) (ea_cons (ee_callF (fn__law_day h) (by decide) rfl (ea_cons (ee_var (i := 2) rfl (by first | exact .inl rfl | exact .inr (.inl rfl) | exact .inr (.inr rfl)) (by decide) (by decide)) (ea_cons (ee_callTy ca_tuple rfl h.z_tuple bt_tuple (ea_cons (ee_comp (own := [("_law_row", 7)]) (by first | decide +kernel | (dsimp only; decide +kernel) | rfl) (by decide) (by decide) (ei_list (ee_var (i := 9) rfl (by first | exact .inl rfl | exact .inr (.inl rfl) | exact .inr (.inr rfl)) (by decide) (by decide))) (eg_name (i := 7) rfl (by first | exact .inl rfl | exact .inr rfl) (by first | exact .inl rfl | exact .inr rfl)) ep_nil (ee_ix (ee_var (i := 7) rfl (by first | exact .inl rfl | exact .inr (.inl rfl) | exact .inr (.inr rfl)) (by decide) (by decide)) ee_int (fun _ _ => rfl)) (fun _ _ => rfl)) ea_nil (fun _ _ => rfl)) (fun _ _ => rfl) (fun _ => rfl) (by decide) (by decide)) (ea_cons (ee_var (i := 8) rfl (by first | exact .inl rfl | exact .inr (.inl rfl) | exact .inr (.inr rfl)) (by decide) (by decide)) ea_nil (fun _ _ => rfl)) (fun _ _ => rfl)) (fun _ _ => rfl)) (fun _ _ => rfl) (fun _ => rfl) (by decide)) ea_nil (fun _ _ => rfl)) (fun _ _ => rfl)) (fun _ _ => rfl) (fun _ => rfl) (by decide)))
    es_nil)))))))))))
theorem sc_law : FnScope ["_law_script", "_law_left_here", "_law_turn"] ["_law_script"] (defScope s_law) := ⟨rfl, rfl, rfl, by decide +kernel, rfl, by decide +kernel, by decide +kernel⟩
def fb_law_1 : SM := (sSeq (sIf (mNot (mB (eCallF F__law_right (cA (eV 1) (cA (eP eqD (cA (eV 2) (cA (eC (.int 4)) cN))) cN))))) (sSeq (sRet (eC (.bl false)))
    sNil) sNil)
    sNil)
def fl_law_1 : SM := sFor (mR1 (cA (eC (.int 5)) cN)) (gN 2) fb_law_1
def b_law : SM := (sSeq (sAsg (eCallF F__law_left (cA (eV 0) cN)) (gN 1))
    (sSeq fl_law_1
    (sSeq (sRet (eC (.bl true)))
    sNil)))
def F_law : Fs := ⟨runF [false] 3 b_law, [false]⟩
theorem sem_law0 (ds : List D) : F_law.sem ds = runF [false] 3 b_law ds := rfl
theorem sig_law : F_law.sig = [false] := rfl
theorem fg_law {g : G0} (h : Hyp g) {f : Addr} {fd : FuncData} (hf : Fun g.K "law" "law" s_law f fd) : FnG g 13 f fd ["_law_script"] (spF g.K F_law) :=
  fn_at hf sc_law rfl (es_cons (es_set (i := 1) rfl (by first | exact .inl rfl | exact .inr rfl) (ee_callF (fn__law_left h) (by decide) rfl (ea_cons (ee_var (i := 0) rfl (by first | exact .inl rfl | exact .inr (.inl rfl) | exact .inr (.inr rfl)) (by decide) (by decide)) ea_nil (fun _ _ => rfl)) (fun _ _ => rfl) (fun _ => rfl) (by decide)) (fun _ => rfl) (.inl rfl))
    (es_cons (es_for (ei_r1 rfl h.z_range (ea_cons ee_int ea_nil (fun _ _ => rfl)) (fun _ _ => rfl)) (eg_name (i := 2) rfl (by first | exact .inl rfl | exact .inr rfl) (by first | exact .inl rfl | exact .inr rfl)) (es_cons (es_if (et_not (et_val (ee_callF (fn__law_right h) (by decide) rfl (ea_cons (ee_var (i := 1) rfl (by first | exact .inl rfl | exact .inr (.inl rfl) | exact .inr (.inr rfl)) (by decide) (by decide)) (ea_cons (ee_cmp op_eqD' (ee_var (i := 2) rfl (by first | exact .inl rfl | exact .inr (.inl rfl) | exact .inr (.inr rfl)) (by decide) (by decide)) ee_int rfl) ea_nil (fun _ _ => rfl)) (fun _ _ => rfl)) (fun _ _ => rfl) (fun _ => rfl) (by decide)) (fun _ _ => rfl))) (es_cons (es_ret ee_bl)
    es_nil) es_nil)
    es_nil) (fun _ _ => rfl))
    (es_cons (es_ret ee_bl)
    es_nil)))
end L_k16
namespace L_k16
open PySem PySem.Spec PyProof.Rows L2 PD
local macro_rules | `(tactic| simp_arith [$xs,*]) => `(tactic| try simp only [↓W_rt, ↓W_bd, ↓W_eC, ↓W_eV, ↓W_cN, ↓W_cA, ↓W_eP, ↓W_eM, ↓W_ckT, ↓W_eU, ↓W_eTup, ↓W_eLst, ↓W_eDk, ↓W_eDt, ↓W_mB, ↓W_mT, ↓W_mNot, ↓W_mAnd, ↓W_mOr, ↓W_eNot, ↓W_eAnd, ↓W_eOr, ↓W_eIf, ↓W_eTmp, ↓W_mTmp, ↓W_oN, ↓W_oS, ↓W_eSl, ↓W_eChain, ↓W_sNil, ↓W_sPass, ↓W_sBrk, ↓W_sCnt, ↓W_sRetN, ↓W_sSeq, ↓W_sExp, ↓W_sRet, ↓W_sIf, ↓W_sAsg, ↓W_gsN, ↓W_gsC, ↓W_gT, ↓W_gTl, ↓W_gS, ↓W_hb_im, ↓W_hb_fr, ↓W_hb_bo, ↓W_sPF, ↓W_sPF3, ↓W_gN_im, ↓W_gN_fr, ↓W_gN_bo, ↓W_frz_im, ↓W_frz_fr, ↓W_frz_bo, ↓W_frzs_nil, ↓W_frzs_cons, ↓W_frzA_nil, ↓W_frzA_t, ↓W_frzA_im, ↓W_frzA_bo, ↓W_callE, ↓W_eCallN, ↓W_eCallF, ↓WO_runF, ↓W_mR1, ↓W_mR2, ↓W_mLst, ↓W_mTup, ↓W_mEnum, ↓W_mEnumT, ↓W_mStr, ↓W_mZip, ↓W_sFor, ↓W_sWhl, ↓W_eComp, ↓W_eTupB, ↓W_sAug, ↓W_mZipM, ↓W_gT_Fld, ↓W_gT_Gt, ↓W_gT_Lt, ↓W_gT_bD, ↓W_gT_Dn, ↓W_gT_Rw, ↓Fld_i0, ↓Fld_i1, ↓Fld_i2, ↓Fld_i3, ↓Fld_i4, ↓Gt_i0, ↓Gt_i1, ↓Gt_i2, ↓Gt_i3, ↓Lt_i0, ↓Lt_i1, ↓Lt_i2, ↓bD_i0, ↓bD_i1, ↓Dn_i0, ↓Dn_i1, ↓Dn_i2, ↓Dn_i3, ↓Rw_i0, ↓Rw_i1, ↓Rw_i2, ↓Rw_i3, ↓Rw_i4, ↓Rw_i5, ↓Rw_i6, ↓Ter_i0, ↓Ter_i1, WO_map, WO_some, WO_none, WB_true, WB_false, WC_true, goes_nx, goes_ct, goes_bk, goes_rt, cut_nx, cut_bk, cut_ct, cut_rt, puts_nil, puts_cons, List.getElem?_cons_zero, List.getElem?_cons_succ, setO, frzO_eq, Option.map_some, putO, putC, List.set_cons_zero, List.set_cons_succ, mutAtD, PD.cnts, PD.cnt, Vl.hold, tyT, beq_self_eq_true, small_eq, lessL_eq, decide_true, decide_false, List.length_cons, List.length_nil, mkE, List.replicate_succ, List.replicate_zero, List.cons_append, List.nil_append, outE, retV, ioAll, ioIx, brIx, mutAt, updE, disj, nmOut, Vl.nm, D.nm, D.nmC, nms, Sl.mut, Sl.frz, D.atom, List.map_cons, List.map_nil, wipeE, unwipe, calm_em, calm_im, calm_none, List.all_cons, List.all_nil, Bool.and_true, Bool.true_and, Bool.and_self, Bool.or_true, Bool.or_self, Bool.true_or, Bool.false_or, Bool.or_false, Bool.not_true, Bool.not_false, Bool.and_false, Bool.false_and, List.isEmpty_nil, List.isEmpty_cons, List.nodup_cons, List.nodup_nil, List.not_mem_nil, not_false_eq_true, and_self, List.contains_nil, if_true, if_false, Bool.false_eq_true, ite_true, ite_false, rg1, rg2, seqL, seqT, zipO, addD, subD, mulD, divD, modD, powD, negD, ltD, leD, gtD, geD, lenD, absD, minD, maxD, PD.intD, ixD, isnD, appendD, reverseD, extendD, slD, setD, listD, tupleD, tupleBD, truD, at0, at1, at2, at3, at4, at5, at6, at7, sd0, sd1, sd2, sd3, ixN, Int.cast_ofNat_Int, Int.reduceEq, Int.reduceNe, Int.reduceLT, Int.reduceLE, Int.reduceNeg, Int.reduceAdd, Int.reduceSub, Int.reduceMul, Int.reducePow, Nat.reducePow, Int.reduceToNat, Int.reduceAbs, ne_eq, not_true_eq_false, Nat.zero_add, Nat.add_zero, Nat.reduceAdd, Nat.reduceSub, Nat.reduceLT, Nat.reduceLeDiff, Nat.reduceEqDiff, Nat.reduceMul, i63_0, i63_1, zipMO_lt, zipMO_tl, zipMO_ll, List.flatten_cons, List.flatten_nil, Nat.lt_irrefl, reduceCtorEq, Nat.zero_lt_succ, Nat.reduceSubDiff, Nat.sub_zero, Nat.sub_self, Bool.not_eq_true, Bool.not_eq_false, b__law_left, wc_below_of_1, wl_below_of_1, ce_below_of_2, cp_below_of_2, b_below_of, ce_way_down_1, cp_way_down_1, ce_way_down_2, cp_way_down_2, b_way_down, ce_lets_into_1, cp_lets_into_1, b_lets_into, b_bank_of, b_field_day, ce_day_of_1, cp_day_of_1, fl_day_of_2, ce_day_of_3, cp_day_of_3, ce_day_of_4, cp_day_of_4, b_day_of, wc__law_same_1, wl__law_same_1, b__law_same, b__law_mix, b__law_pick, fl__law_some_names_1, ce__law_some_names_2, cp__law_some_names_2, ce__law_some_names_3, cp__law_some_names_3, ce__law_some_names_4, cp__law_some_names_4, b__law_some_names, ce__law_terrace_1, cp__law_terrace_1, ce__law_terrace_2, cp__law_terrace_2, ce__law_terrace_3, cp__law_terrace_3, fl__law_terrace_4, fl__law_terrace_5, b__law_terrace, ce_stand_of_1, cp_stand_of_1, b_stand_of, ce__law_field_row_1, cp__law_field_row_1, ce__law_field_row_2, cp__law_field_row_2, ce__law_field_row_3, cp__law_field_row_3, ce__law_field_row_4, cp__law_field_row_4, b__law_field_row, ce__law_day_1, cp__law_day_1, b__law_day, ce__law_right_1, cp__law_right_1, ce__law_right_2, cp__law_right_2, ce__law_right_3, cp__law_right_3, fl__law_right_4, b__law_right, fl_law_1, b_law, sig__law_left, sig_below_of, sig_way_down, sig_lets_into, sig_bank_of, sig_field_day, sig_day_of, sig__law_same, sig__law_mix, sig__law_pick, sig__law_some_names, sig__law_terrace, sig_stand_of, sig__law_day, sig__law_right, sig_law, $xs,*])
local macro_rules | `(tactic| simp_arith) => `(tactic| try simp only [↓W_rt, ↓W_bd, ↓W_eC, ↓W_eV, ↓W_cN, ↓W_cA, ↓W_eP, ↓W_eM, ↓W_ckT, ↓W_eU, ↓W_eTup, ↓W_eLst, ↓W_eDk, ↓W_eDt, ↓W_mB, ↓W_mT, ↓W_mNot, ↓W_mAnd, ↓W_mOr, ↓W_eNot, ↓W_eAnd, ↓W_eOr, ↓W_eIf, ↓W_eTmp, ↓W_mTmp, ↓W_oN, ↓W_oS, ↓W_eSl, ↓W_eChain, ↓W_sNil, ↓W_sPass, ↓W_sBrk, ↓W_sCnt, ↓W_sRetN, ↓W_sSeq, ↓W_sExp, ↓W_sRet, ↓W_sIf, ↓W_sAsg, ↓W_gsN, ↓W_gsC, ↓W_gT, ↓W_gTl, ↓W_gS, ↓W_hb_im, ↓W_hb_fr, ↓W_hb_bo, ↓W_sPF, ↓W_sPF3, ↓W_gN_im, ↓W_gN_fr, ↓W_gN_bo, ↓W_frz_im, ↓W_frz_fr, ↓W_frz_bo, ↓W_frzs_nil, ↓W_frzs_cons, ↓W_frzA_nil, ↓W_frzA_t, ↓W_frzA_im, ↓W_frzA_bo, ↓W_callE, ↓W_eCallN, ↓W_eCallF, ↓WO_runF, ↓W_mR1, ↓W_mR2, ↓W_mLst, ↓W_mTup, ↓W_mEnum, ↓W_mEnumT, ↓W_mStr, ↓W_mZip, ↓W_sFor, ↓W_sWhl, ↓W_eComp, ↓W_eTupB, ↓W_sAug, ↓W_mZipM, ↓W_gT_Fld, ↓W_gT_Gt, ↓W_gT_Lt, ↓W_gT_bD, ↓W_gT_Dn, ↓W_gT_Rw, ↓Fld_i0, ↓Fld_i1, ↓Fld_i2, ↓Fld_i3, ↓Fld_i4, ↓Gt_i0, ↓Gt_i1, ↓Gt_i2, ↓Gt_i3, ↓Lt_i0, ↓Lt_i1, ↓Lt_i2, ↓bD_i0, ↓bD_i1, ↓Dn_i0, ↓Dn_i1, ↓Dn_i2, ↓Dn_i3, ↓Rw_i0, ↓Rw_i1, ↓Rw_i2, ↓Rw_i3, ↓Rw_i4, ↓Rw_i5, ↓Rw_i6, ↓Ter_i0, ↓Ter_i1, WO_map, WO_some, WO_none, WB_true, WB_false, WC_true, goes_nx, goes_ct, goes_bk, goes_rt, cut_nx, cut_bk, cut_ct, cut_rt, puts_nil, puts_cons, List.getElem?_cons_zero, List.getElem?_cons_succ, setO, frzO_eq, Option.map_some, putO, putC, List.set_cons_zero, List.set_cons_succ, mutAtD, PD.cnts, PD.cnt, Vl.hold, tyT, beq_self_eq_true, small_eq, lessL_eq, decide_true, decide_false, List.length_cons, List.length_nil, mkE, List.replicate_succ, List.replicate_zero, List.cons_append, List.nil_append, outE, retV, ioAll, ioIx, brIx, mutAt, updE, disj, nmOut, Vl.nm, D.nm, D.nmC, nms, Sl.mut, Sl.frz, D.atom, List.map_cons, List.map_nil, wipeE, unwipe, calm_em, calm_im, calm_none, List.all_cons, List.all_nil, Bool.and_true, Bool.true_and, Bool.and_self, Bool.or_true, Bool.or_self, Bool.true_or, Bool.false_or, Bool.or_false, Bool.not_true, Bool.not_false, Bool.and_false, Bool.false_and, List.isEmpty_nil, List.isEmpty_cons, List.nodup_cons, List.nodup_nil, List.not_mem_nil, not_false_eq_true, and_self, List.contains_nil, if_true, if_false, Bool.false_eq_true, ite_true, ite_false, rg1, rg2, seqL, seqT, zipO, addD, subD, mulD, divD, modD, powD, negD, ltD, leD, gtD, geD, lenD, absD, minD, maxD, PD.intD, ixD, isnD, appendD, reverseD, extendD, slD, setD, listD, tupleD, tupleBD, truD, at0, at1, at2, at3, at4, at5, at6, at7, sd0, sd1, sd2, sd3, ixN, Int.cast_ofNat_Int, Int.reduceEq, Int.reduceNe, Int.reduceLT, Int.reduceLE, Int.reduceNeg, Int.reduceAdd, Int.reduceSub, Int.reduceMul, Int.reducePow, Nat.reducePow, Int.reduceToNat, Int.reduceAbs, ne_eq, not_true_eq_false, Nat.zero_add, Nat.add_zero, Nat.reduceAdd, Nat.reduceSub, Nat.reduceLT, Nat.reduceLeDiff, Nat.reduceEqDiff, Nat.reduceMul, i63_0, i63_1, zipMO_lt, zipMO_tl, zipMO_ll, List.flatten_cons, List.flatten_nil, Nat.lt_irrefl, reduceCtorEq, Nat.zero_lt_succ, Nat.reduceSubDiff, Nat.sub_zero, Nat.sub_self, Bool.not_eq_true, Bool.not_eq_false, b__law_left, wc_below_of_1, wl_below_of_1, ce_below_of_2, cp_below_of_2, b_below_of, ce_way_down_1, cp_way_down_1, ce_way_down_2, cp_way_down_2, b_way_down, ce_lets_into_1, cp_lets_into_1, b_lets_into, b_bank_of, b_field_day, ce_day_of_1, cp_day_of_1, fl_day_of_2, ce_day_of_3, cp_day_of_3, ce_day_of_4, cp_day_of_4, b_day_of, wc__law_same_1, wl__law_same_1, b__law_same, b__law_mix, b__law_pick, fl__law_some_names_1, ce__law_some_names_2, cp__law_some_names_2, ce__law_some_names_3, cp__law_some_names_3, ce__law_some_names_4, cp__law_some_names_4, b__law_some_names, ce__law_terrace_1, cp__law_terrace_1, ce__law_terrace_2, cp__law_terrace_2, ce__law_terrace_3, cp__law_terrace_3, fl__law_terrace_4, fl__law_terrace_5, b__law_terrace, ce_stand_of_1, cp_stand_of_1, b_stand_of, ce__law_field_row_1, cp__law_field_row_1, ce__law_field_row_2, cp__law_field_row_2, ce__law_field_row_3, cp__law_field_row_3, ce__law_field_row_4, cp__law_field_row_4, b__law_field_row, ce__law_day_1, cp__law_day_1, b__law_day, ce__law_right_1, cp__law_right_1, ce__law_right_2, cp__law_right_2, ce__law_right_3, cp__law_right_3, fl__law_right_4, b__law_right, fl_law_1, b_law, sig__law_left, sig_below_of, sig_way_down, sig_lets_into, sig_bank_of, sig_field_day, sig_day_of, sig__law_same, sig__law_mix, sig__law_pick, sig__law_some_names, sig__law_terrace, sig_stand_of, sig__law_day, sig__law_right, sig_law])
theorem mix_sem (c k : Int) (h0 : 0 ≤ k) (h1 : k < 2 ^ 36) : ∃ r : Int, F__law_mix.sem [.int c, .int k] = some (.im (.int r), [.int c, .int k]) ∧ 0 ≤ r := by
  have a1 : s64 k = true := s64_small (by omega) (by omega)
  have a2 : s64 (7919 : Int) = true := by decide
  have a3 : s64 (48271 : Int) = true := by decide
  have b1 : 0 ≤ Int.fmod ((Int.fmod c 2147483629 + k * k * 7919 + 11) * 48271) 2147483647 := Int.fmod_nonneg_of_pos _ (by decide)
  have b2 : Int.fmod ((Int.fmod c 2147483629 + k * k * 7919 + 11) * 48271) 2147483647 < 2147483647 := Int.fmod_lt_of_pos _ (by decide)
  have a4 : s64 (Int.fmod ((Int.fmod c 2147483629 + k * k * 7919 + 11) * 48271) 2147483647) = true := s64_small (by omega) (by omega)
  suffices key : @WO _ (F__law_mix.sem [.int c, .int k]) ⟨fun p => ∃ r : Int, p = (.im (.int r), [.int c, .int k]) ∧ 0 ≤ r⟩ by
    obtain ⟨p, h, r, rfl, hr⟩ := key
    exact ⟨r, h, hr⟩
  rw [sem__law_mix]
  simp_arith [a1, a2, a3, a4]
  exact ⟨_, rfl, Int.fmod_nonneg_of_pos _ (by decide)⟩
/-- what is drawn from: n picks at most were made -/
def Lf (n : Nat) (l : D) : Prop := ∃ (a j : Int) (cs : List D), l = .lst [.int a, .lst cs, .int j] ∧ 0 ≤ a ∧ 0 ≤ j ∧ j ≤ n ∧ 1 ≤ cs.length ∧ cs.length ≤ 63 ∧ ∀ c ∈ cs, ∃ i : Int, c = .int i
theorem Lf.mono {n m : Nat} {l : D} (h : Lf n l) (hn : n ≤ m) : Lf m l := by
  obtain ⟨a, b, j, e, h1, h2, h3, h4⟩ := h
  exact ⟨a, b, j, e, h1, h2, by omega, h4⟩
theorem pick_wp {n : Nat} {l : D} {m : Int} {K : Vl × List D → Prop} (h : Lf n l) (hn : n < 2 ^ 30) (hm : 0 < m) (hm2 : m < 2 ^ 30) (q : ∀ (r : Int) (l' : D), 0 ≤ r → r < m → Lf (n + 1) l' → K (.im (.int r), [l', .int m])) : @WO _ (F__law_pick.sem [l, .int m]) ⟨K⟩ := by
  obtain ⟨a, j, cs, rfl, ha, hj, hj2, hc1, hc2, hc⟩ := h
  have m0 : (m = 0) = False := by simp; omega
  have m1 : (m.natAbs < 1073741824) = True := by simp; omega
  rw [sem__law_pick]
  simp_arith [m0, m1, sig__law_mix]
  refine WB_cases' (fun h0 => ?_) (fun h0 => ?_)
  · simp_arith [m0, m1]
    refine q _ _ (Int.fmod_nonneg_of_pos a hm) (Int.fmod_lt_of_pos a hm) ?_
    exact ⟨_, _, _, rfl, Int.fdiv_nonneg ha (by omega), by omega, by omega, hc1, hc2, hc⟩
  · obtain ⟨u, hu⟩ : ∃ u : Int, u = (cs.length : Int) := ⟨_, rfl⟩
    have u0 : (u = 0) = False := by simp; omega
    have u1 : (u.natAbs < 1073741824) = True := by simp; omega
    have u2 : decide (cs.length ≤ 16777216) = true := decide_eq_true (by omega)
    have k2 : s64 (1000003 : Int) = true := by decide
    have f0 : 0 ≤ Int.fmod (j + 1) u := Int.fmod_nonneg_of_pos _ (by omega)
    have f1 : Int.fmod (j + 1) u < u := Int.fmod_lt_of_pos _ (by omega)
    simp_arith [u2, ← hu, u0, u1]
    refine WO_atP hc f0 (by omega) ?_
    rintro _ ⟨i, rfl⟩
    simp_arith [u2, ← hu, u0, u1, k2, Bool.true_or]
    obtain ⟨r1, e1, p1⟩ := mix_sem (i + 1000003 * Int.fdiv (j + 1) u) (j + 1) (by omega) (by omega)
    obtain ⟨r2, e2, p2⟩ := mix_sem r1 (j + 1 + 64) (by omega) (by omega)
    simp_arith [m0, m1, sig__law_mix, e1, e2]
    refine q _ _ (Int.fmod_nonneg_of_pos _ hm) (Int.fmod_lt_of_pos _ hm) ?_
    exact ⟨_, _, _, rfl, ha, by omega, by omega, hc1, hc2, hc⟩
theorem left_wp {ns : List Int} {K : Vl × List D → Prop} (hn : ns.length ≤ 63) (q : ∀ l, Lf 0 l → K (.fr l, [.sc ns])) : @WO _ (F__law_left.sem [.sc ns]) ⟨K⟩ := by
  have m2 : s64 (1 : Int) = true := by decide
  have m3 : s64 (0 : Int) = true := by decide
  have lt1 : ∀ c ∈ (cutD ns none (some 63)).map D.int, ∃ i : Int, c = .int i := fun c hc => by
    obtain ⟨i, _, rfl⟩ := List.mem_map.mp hc
    exact ⟨i, rfl⟩
  have lt2 : ((cutD ns none (some 63)).map D.int).length = ns.length := by
    rw [List.length_map, cut_takeI ns (by decide), List.length_take, show (63 : Int).toNat = 63 from rfl]
    omega
  rw [sem__law_left]
  simp_arith
  refine WB_cases' (fun hc => ?_) (fun hc => ?_)
  · simp_arith
    refine WO_at (by omega) hc fun j c _ hj => ?_
    simp_arith
    by_cases hb : (1000000000000000000 : Int) ≤ (if c < 0 then -c else c)
    · simp_arith [hb, m2, Bool.or_true]
      refine WB_cases' (fun _ => ?_) (fun h => absurd hc h)
      simp_arith
      exact q _ ⟨_, _, _, rfl, by split <;> omega, by decide, by decide, by omega, by omega, lt1⟩
    · simp_arith [hb, m3, Bool.or_true]
      refine WB_cases' (fun _ => ?_) (fun h => absurd hc h)
      simp_arith
      exact q _ ⟨_, _, _, rfl, by simp, by decide, by decide, by omega, by omega, lt1⟩
  · simp_arith [m3, Bool.or_true]
    refine WB_cases' (fun h => absurd h hc) (fun _ => ?_)
    simp_arith
    exact q _ ⟨_, _, _, rfl, by decide, by decide, by decide, by decide, by decide, fun c hc => by
      have : c = .int 7 := by simpa using hc
      exact ⟨7, this⟩⟩
end L_k16
namespace L_k16
open PySem PySem.Spec PyProof.Rows L2 PD
local macro_rules | `(tactic| simp_arith [$xs,*]) => `(tactic| try simp only [↓W_rt, ↓W_bd, ↓W_eC, ↓W_eV, ↓W_cN, ↓W_cA, ↓W_eP, ↓W_eM, ↓W_ckT, ↓W_eU, ↓W_eTup, ↓W_eLst, ↓W_eDk, ↓W_eDt, ↓W_mB, ↓W_mT, ↓W_mNot, ↓W_mAnd, ↓W_mOr, ↓W_eNot, ↓W_eAnd, ↓W_eOr, ↓W_eIf, ↓W_eTmp, ↓W_mTmp, ↓W_oN, ↓W_oS, ↓W_eSl, ↓W_eChain, ↓W_sNil, ↓W_sPass, ↓W_sBrk, ↓W_sCnt, ↓W_sRetN, ↓W_sSeq, ↓W_sExp, ↓W_sRet, ↓W_sIf, ↓W_sAsg, ↓W_gsN, ↓W_gsC, ↓W_gT, ↓W_gTl, ↓W_gS, ↓W_hb_im, ↓W_hb_fr, ↓W_hb_bo, ↓W_sPF, ↓W_sPF3, ↓W_gN_im, ↓W_gN_fr, ↓W_gN_bo, ↓W_frz_im, ↓W_frz_fr, ↓W_frz_bo, ↓W_frzs_nil, ↓W_frzs_cons, ↓W_frzA_nil, ↓W_frzA_t, ↓W_frzA_im, ↓W_frzA_bo, ↓W_callE, ↓W_eCallN, ↓W_eCallF, ↓WO_runF, ↓W_mR1, ↓W_mR2, ↓W_mLst, ↓W_mTup, ↓W_mEnum, ↓W_mEnumT, ↓W_mStr, ↓W_mZip, ↓W_sFor, ↓W_sWhl, ↓W_eComp, ↓W_eTupB, ↓W_sAug, ↓W_mZipM, ↓W_gT_Fld, ↓W_gT_Gt, ↓W_gT_Lt, ↓W_gT_bD, ↓W_gT_Dn, ↓W_gT_Rw, ↓Fld_i0, ↓Fld_i1, ↓Fld_i2, ↓Fld_i3, ↓Fld_i4, ↓Gt_i0, ↓Gt_i1, ↓Gt_i2, ↓Gt_i3, ↓Lt_i0, ↓Lt_i1, ↓Lt_i2, ↓bD_i0, ↓bD_i1, ↓Dn_i0, ↓Dn_i1, ↓Dn_i2, ↓Dn_i3, ↓Rw_i0, ↓Rw_i1, ↓Rw_i2, ↓Rw_i3, ↓Rw_i4, ↓Rw_i5, ↓Rw_i6, ↓Ter_i0, ↓Ter_i1, WO_map, WO_some, WO_none, WB_true, WB_false, WC_true, goes_nx, goes_ct, goes_bk, goes_rt, cut_nx, cut_bk, cut_ct, cut_rt, puts_nil, puts_cons, List.getElem?_cons_zero, List.getElem?_cons_succ, setO, frzO_eq, Option.map_some, putO, putC, List.set_cons_zero, List.set_cons_succ, mutAtD, PD.cnts, PD.cnt, Vl.hold, tyT, beq_self_eq_true, small_eq, lessL_eq, decide_true, decide_false, List.length_cons, List.length_nil, mkE, List.replicate_succ, List.replicate_zero, List.cons_append, List.nil_append, outE, retV, ioAll, ioIx, brIx, mutAt, updE, disj, nmOut, Vl.nm, D.nm, D.nmC, nms, Sl.mut, Sl.frz, D.atom, List.map_cons, List.map_nil, wipeE, unwipe, calm_em, calm_im, calm_none, List.all_cons, List.all_nil, Bool.and_true, Bool.true_and, Bool.and_self, Bool.or_true, Bool.or_self, Bool.true_or, Bool.false_or, Bool.or_false, Bool.not_true, Bool.not_false, Bool.and_false, Bool.false_and, List.isEmpty_nil, List.isEmpty_cons, List.nodup_cons, List.nodup_nil, List.not_mem_nil, not_false_eq_true, and_self, List.contains_nil, if_true, if_false, Bool.false_eq_true, ite_true, ite_false, rg1, rg2, seqL, seqT, zipO, addD, subD, mulD, divD, modD, powD, negD, ltD, leD, gtD, geD, lenD, absD, minD, maxD, PD.intD, ixD, isnD, appendD, reverseD, extendD, slD, setD, listD, tupleD, tupleBD, truD, at0, at1, at2, at3, at4, at5, at6, at7, sd0, sd1, sd2, sd3, ixN, Int.cast_ofNat_Int, Int.reduceEq, Int.reduceNe, Int.reduceLT, Int.reduceLE, Int.reduceNeg, Int.reduceAdd, Int.reduceSub, Int.reduceMul, Int.reducePow, Nat.reducePow, Int.reduceToNat, Int.reduceAbs, ne_eq, not_true_eq_false, Nat.zero_add, Nat.add_zero, Nat.reduceAdd, Nat.reduceSub, Nat.reduceLT, Nat.reduceLeDiff, Nat.reduceEqDiff, Nat.reduceMul, i63_0, i63_1, zipMO_lt, zipMO_tl, zipMO_ll, List.flatten_cons, List.flatten_nil, Nat.lt_irrefl, reduceCtorEq, Nat.zero_lt_succ, Nat.reduceSubDiff, Nat.sub_zero, Nat.sub_self, Bool.not_eq_true, Bool.not_eq_false, sig__law_pick, sig__law_mix, $xs,*])
local macro_rules | `(tactic| simp_arith) => `(tactic| try simp only [↓W_rt, ↓W_bd, ↓W_eC, ↓W_eV, ↓W_cN, ↓W_cA, ↓W_eP, ↓W_eM, ↓W_ckT, ↓W_eU, ↓W_eTup, ↓W_eLst, ↓W_eDk, ↓W_eDt, ↓W_mB, ↓W_mT, ↓W_mNot, ↓W_mAnd, ↓W_mOr, ↓W_eNot, ↓W_eAnd, ↓W_eOr, ↓W_eIf, ↓W_eTmp, ↓W_mTmp, ↓W_oN, ↓W_oS, ↓W_eSl, ↓W_eChain, ↓W_sNil, ↓W_sPass, ↓W_sBrk, ↓W_sCnt, ↓W_sRetN, ↓W_sSeq, ↓W_sExp, ↓W_sRet, ↓W_sIf, ↓W_sAsg, ↓W_gsN, ↓W_gsC, ↓W_gT, ↓W_gTl, ↓W_gS, ↓W_hb_im, ↓W_hb_fr, ↓W_hb_bo, ↓W_sPF, ↓W_sPF3, ↓W_gN_im, ↓W_gN_fr, ↓W_gN_bo, ↓W_frz_im, ↓W_frz_fr, ↓W_frz_bo, ↓W_frzs_nil, ↓W_frzs_cons, ↓W_frzA_nil, ↓W_frzA_t, ↓W_frzA_im, ↓W_frzA_bo, ↓W_callE, ↓W_eCallN, ↓W_eCallF, ↓WO_runF, ↓W_mR1, ↓W_mR2, ↓W_mLst, ↓W_mTup, ↓W_mEnum, ↓W_mEnumT, ↓W_mStr, ↓W_mZip, ↓W_sFor, ↓W_sWhl, ↓W_eComp, ↓W_eTupB, ↓W_sAug, ↓W_mZipM, ↓W_gT_Fld, ↓W_gT_Gt, ↓W_gT_Lt, ↓W_gT_bD, ↓W_gT_Dn, ↓W_gT_Rw, ↓Fld_i0, ↓Fld_i1, ↓Fld_i2, ↓Fld_i3, ↓Fld_i4, ↓Gt_i0, ↓Gt_i1, ↓Gt_i2, ↓Gt_i3, ↓Lt_i0, ↓Lt_i1, ↓Lt_i2, ↓bD_i0, ↓bD_i1, ↓Dn_i0, ↓Dn_i1, ↓Dn_i2, ↓Dn_i3, ↓Rw_i0, ↓Rw_i1, ↓Rw_i2, ↓Rw_i3, ↓Rw_i4, ↓Rw_i5, ↓Rw_i6, ↓Ter_i0, ↓Ter_i1, WO_map, WO_some, WO_none, WB_true, WB_false, WC_true, goes_nx, goes_ct, goes_bk, goes_rt, cut_nx, cut_bk, cut_ct, cut_rt, puts_nil, puts_cons, List.getElem?_cons_zero, List.getElem?_cons_succ, setO, frzO_eq, Option.map_some, putO, putC, List.set_cons_zero, List.set_cons_succ, mutAtD, PD.cnts, PD.cnt, Vl.hold, tyT, beq_self_eq_true, small_eq, lessL_eq, decide_true, decide_false, List.length_cons, List.length_nil, mkE, List.replicate_succ, List.replicate_zero, List.cons_append, List.nil_append, outE, retV, ioAll, ioIx, brIx, mutAt, updE, disj, nmOut, Vl.nm, D.nm, D.nmC, nms, Sl.mut, Sl.frz, D.atom, List.map_cons, List.map_nil, wipeE, unwipe, calm_em, calm_im, calm_none, List.all_cons, List.all_nil, Bool.and_true, Bool.true_and, Bool.and_self, Bool.or_true, Bool.or_self, Bool.true_or, Bool.false_or, Bool.or_false, Bool.not_true, Bool.not_false, Bool.and_false, Bool.false_and, List.isEmpty_nil, List.isEmpty_cons, List.nodup_cons, List.nodup_nil, List.not_mem_nil, not_false_eq_true, and_self, List.contains_nil, if_true, if_false, Bool.false_eq_true, ite_true, ite_false, rg1, rg2, seqL, seqT, zipO, addD, subD, mulD, divD, modD, powD, negD, ltD, leD, gtD, geD, lenD, absD, minD, maxD, PD.intD, ixD, isnD, appendD, reverseD, extendD, slD, setD, listD, tupleD, tupleBD, truD, at0, at1, at2, at3, at4, at5, at6, at7, sd0, sd1, sd2, sd3, ixN, Int.cast_ofNat_Int, Int.reduceEq, Int.reduceNe, Int.reduceLT, Int.reduceLE, Int.reduceNeg, Int.reduceAdd, Int.reduceSub, Int.reduceMul, Int.reducePow, Nat.reducePow, Int.reduceToNat, Int.reduceAbs, ne_eq, not_true_eq_false, Nat.zero_add, Nat.add_zero, Nat.reduceAdd, Nat.reduceSub, Nat.reduceLT, Nat.reduceLeDiff, Nat.reduceEqDiff, Nat.reduceMul, i63_0, i63_1, zipMO_lt, zipMO_tl, zipMO_ll, List.flatten_cons, List.flatten_nil, Nat.lt_irrefl, reduceCtorEq, Nat.zero_lt_succ, Nat.reduceSubDiff, Nat.sub_zero, Nat.sub_self, Bool.not_eq_true, Bool.not_eq_false, sig__law_pick, sig__law_mix])
def LS : D := .str (Str.ofString "abcdefghijklmnopqrstuvwxyz")
/-- the letter at r -/
def lt (r : Int) : Nat := (PD.LT[r.toNat]?).getD 0
theorem lt_wp {r : Int} {K : Vl → Prop} (h0 : 0 ≤ r) (h1 : r < 26) (q : lt r ∈ PD.LT → K (.im (.str ⟨#[lt r]⟩))) : @WO _ (ixD [LS, .int r]) ⟨K⟩ := by
  have e : ixD [LS, .int r] = if small (Str.ofString "abcdefghijklmnopqrstuvwxyz").length = true then (L2.atI (Str.ofString "abcdefghijklmnopqrstuvwxyz").cps.toList r).map (fun c => Vl.im (.str ⟨#[c]⟩)) else none := rfl
  have hl : PD.LT.length = 26 := by decide +kernel
  obtain ⟨j, rfl⟩ := Int.eq_ofNat_of_zero_le h0
  have hj : j < PD.LT.length := by omega
  have hx : L2.atI PD.LT ((j : Nat) : Int) = some (lt ((j : Nat) : Int)) := by
    have : PD.LT[j]? = some PD.LT[j] := List.getElem?_eq_getElem hj
    rw [lt, Int.toNat_natCast, this, Option.getD_some]
    exact at_nat this
  rw [e, if_pos LT_small]
  show @WO _ ((L2.atI PD.LT ((j : Nat) : Int)).map (fun c => Vl.im (.str ⟨#[c]⟩))) ⟨K⟩
  rw [hx, Option.map_some, WO_some]
  refine q ?_
  rw [lt, Int.toNat_natCast, List.getElem?_eq_getElem hj, Option.getD_some]
  exact List.getElem_mem hj
theorem lt_inj {r t : Int} (h0 : 0 ≤ r) (h1 : r < 26) (g0 : 0 ≤ t) (g1 : t < 26) (h : lt r = lt t) : r = t := by
  have hl : PD.LT.length = 26 := by decide +kernel
  have nd : PD.LT.Nodup := by decide +kernel
  unfold lt at h
  have a1 : r.toNat < PD.LT.length := by omega
  have a2 : t.toNat < PD.LT.length := by omega
  rw [List.getElem?_eq_getElem a1, List.getElem?_eq_getElem a2, Option.getD_some, Option.getD_some] at h
  have e : PD.LT[r.toNat]? = PD.LT[t.toNat]? := by rw [List.getElem?_eq_getElem a1, List.getElem?_eq_getElem a2, h]
  have := (List.getElem?_inj a1 nd).mp e
  omega
theorem step_inj {y fi : Int} {i j : Nat} (hy : y = 1 ∨ y = 3 ∨ y = 5 ∨ y = 7 ∨ y = 25 ∨ y = 675) (hi : i < 16) (hj : j < 16) (h : (fi + y * (0 + (i : Int))) % 676 = (fi + y * (0 + (j : Int))) % 676) : i = j := by
  rcases hy with rfl | rfl | rfl | rfl | rfl | rfl <;> omega
theorem step_inj2 {y fi : Int} {i j : Nat} (hy : y = 1 ∨ y = 3 ∨ y = 5 ∨ y = 7 ∨ y = 25 ∨ y = 675) (hi : i < 16) (hj : j < 16) (h : (fi + y * (0 + (i : Int))) % 26 = (fi + y * (0 + (j : Int))) % 26) : i = j := by
  rcases hy with rfl | rfl | rfl | rfl | rfl | rfl <;> omega
theorem nodup_of {ds : List D} {G : Nat → D → Prop} (h : ∀ k d, ds[k]? = some d → G k d) (hg : ∀ i j d, i < ds.length → j < ds.length → G i d → G j d → i = j) : ds.Nodup := by
  rw [List.Nodup, List.pairwise_iff_getElem]
  intro i j hi hj hij e
  have := hg i j ds[j] hi hj (h i _ (by rw [List.getElem?_eq_getElem hi, e])) (h j _ (List.getElem?_eq_getElem hj))
  omega
/-- a text that is no empty one -/
def Ne1 (d : D) : Prop := ∃ x : Str, d = .str x ∧ As 8 x ∧ 1 ≤ x.length
theorem letter_wp {r : Int} {K : Vl → Prop} (h0 : 0 ≤ r) (h1 : r < 26) (q : ∀ c ∈ PD.LT, K (.im (.str ⟨#[c]⟩))) : @WO _ (ixD [LS, .int r]) ⟨K⟩ := by
  obtain ⟨c, hc, hx⟩ := letter_at r h0 h1
  have e : ixD [LS, .int r] = if small (Str.ofString "abcdefghijklmnopqrstuvwxyz").length = true then (L2.atI (Str.ofString "abcdefghijklmnopqrstuvwxyz").cps.toList r).map (fun c => Vl.im (.str ⟨#[c]⟩)) else none := rfl
  rw [e, if_pos LT_small, hx, Option.map_some, WO_some]
  exact q c hc
theorem all_capp {cs : List Nat} {c : Nat} {P : Nat → Prop} (h : ∀ x ∈ cs, P x) (hc : P c) : ∀ x ∈ cs ++ [c], P x := fun x hx => by
  rcases List.mem_append.mp hx with hx | hx
  · exact h x hx
  · rw [List.mem_singleton.mp hx]
    exact hc
theorem sLS : (D.str "abcdefghijklmnopqrstuvwxyz") = LS := rfl
/-- a turn of the letters drawn one by one -/
def PL (n : Nat) (e0 : PD.Env) (i : Nat) (ys : List D) (e : PD.Env) : Prop := ∃ (cs : List Nat) (l : D), ys = cs.map (fun c => D.str ⟨#[c]⟩) ∧ (∀ c ∈ cs, c ∈ PD.LT) ∧ cs.length = i ∧ Lf (n + i) l ∧ e = puts e0 [(0, .io 0 l)]
theorem signs_str {cs : List Nat} {m : Nat} (h : ∀ c ∈ cs, c ∈ PD.LT) (hl : cs.length ≤ m) : As m ⟨cs.toArray⟩ := ⟨by show cs.toArray.size ≤ m; simpa using hl, fun c hc => LT_low c (h c (by simpa using hc))⟩
/-- the k-th name of two letters between a head and the tail's front -/
def G2 (hd : Str) (fi y : Int) (k : Nat) (d : D) : Prop := ∃ t : Str, As 2 t ∧ d = .str ((hd ++ (⟨#[lt (Int.fdiv (Int.fmod (fi + y * (0 + (k : Int))) 676) 26)]⟩ ++ ⟨#[lt (Int.fmod (Int.fmod (fi + y * (0 + (k : Int))) 676) 26)]⟩)) ++ t)
theorem lt_low (r : Int) : lt r < 128 := by
  unfold lt
  cases h : PD.LT[r.toNat]? with
  | none => simp
  | some c => exact LT_low c (List.mem_of_getElem? h)
theorem G2.ne {hd : Str} {fi y : Int} {k : Nat} {d : D} (g : G2 hd fi y k d) (h : As 2 hd) : Ne1 d := by
  obtain ⟨t, ht, rfl⟩ := g
  refine ⟨_, rfl, (((h.app ((As.one (lt_low _) (n := 1) (by decide)).app (As.one (lt_low _) (n := 1) (by decide)))).app ht).mono (by decide)), ?_⟩
  rw [len_app, len_app, len_app]
  have : ∀ c : Nat, (⟨#[c]⟩ : Str).length = 1 := fun c => rfl
  rw [this, this]
  omega
theorem G2.inj {hd : Str} {fi y : Int} {i j : Nat} {d : D} (hy : y = 1 ∨ y = 3 ∨ y = 5 ∨ y = 7 ∨ y = 25 ∨ y = 675) (hi : i < 16) (hj : j < 16) (g1 : G2 hd fi y i d) (g2 : G2 hd fi y j d) : i = j := by
  obtain ⟨t, _, e1⟩ := g1
  obtain ⟨u, _, e2⟩ := g2
  rw [e1] at e2
  have e3 : ∀ (a b c d : Nat), (D.str ((hd ++ ((⟨#[a]⟩ : Str) ++ ⟨#[b]⟩)) ++ t)) = D.str ((hd ++ ((⟨#[c]⟩ : Str) ++ ⟨#[d]⟩)) ++ u) → a = c ∧ b = d := by
    intro a b c d h
    have h1 : ((hd ++ ((⟨#[a]⟩ : Str) ++ ⟨#[b]⟩)) ++ t) = ((hd ++ ((⟨#[c]⟩ : Str) ++ ⟨#[d]⟩)) ++ u) := by injection h
    have h2 : ((hd ++ ((⟨#[a]⟩ : Str) ++ ⟨#[b]⟩)) ++ t).cps.toList = ((hd ++ ((⟨#[c]⟩ : Str) ++ ⟨#[d]⟩)) ++ u).cps.toList := by rw [h1]
    have cl : ∀ x y : Str, (x ++ y).cps.toList = x.cps.toList ++ y.cps.toList := fun x y => Array.toList_append ..
    simp only [cl, List.append_assoc] at h2
    have h3 := List.append_cancel_left h2
    simp only [List.cons_append, List.nil_append, List.cons.injEq] at h3
    exact ⟨h3.1, h3.2.1⟩
  obtain ⟨e4, e5⟩ := e3 _ _ _ _ e2
  have v0 := Int.fmod_nonneg_of_pos (fi + y * (0 + (i : Int))) (b := 676) (by decide)
  have v1 := Int.fmod_lt_of_pos (fi + y * (0 + (i : Int))) (b := 676) (by decide)
  have w0 := Int.fmod_nonneg_of_pos (fi + y * (0 + (j : Int))) (b := 676) (by decide)
  have w1 := Int.fmod_lt_of_pos (fi + y * (0 + (j : Int))) (b := 676) (by decide)
  have m : ∀ a b : Int, 0 < b → Int.fmod a b = a % b := fun a b h => Int.fmod_eq_emod_of_nonneg _ (by omega)
  have d0 : ∀ a b : Int, 0 < b → Int.fdiv a b = a / b := fun a b h => Int.fdiv_eq_ediv_of_nonneg _ (by omega)
  have e6 := lt_inj (Int.fdiv_nonneg v0 (by decide)) (by rw [d0 _ _ (by decide)]; omega) (Int.fdiv_nonneg w0 (by decide)) (by rw [d0 _ _ (by decide)]; omega) e4
  have e7 := lt_inj (Int.fmod_nonneg_of_pos _ (by decide)) (Int.fmod_lt_of_pos _ (by decide)) (Int.fmod_nonneg_of_pos _ (by decide)) (Int.fmod_lt_of_pos _ (by decide)) e5
  rw [d0 _ _ (by decide), d0 _ _ (by decide)] at e6
  rw [m _ 26 (by decide), m _ 26 (by decide)] at e7
  refine step_inj (fi := fi) hy hi hj ?_
  rw [← m _ 676 (by decide), ← m _ 676 (by decide)]
  omega
theorem snoc_at {ds : List D} {i : Nat} {P : Nat → D → Prop} (hl : ds.length = i) (h : ∀ k d, ds[k]? = some d → P k d) {d : D} (hd : P i d) : ∀ k e, (ds ++ [d])[k]? = some e → P k e := by
  intro k e hk
  by_cases hki : k < ds.length
  · rw [List.getElem?_append_left hki] at hk
    exact h k e hk
  · rw [List.getElem?_append_right (by omega)] at hk
    have h0 : k - ds.length = 0 := by
      have := (List.getElem?_eq_some_iff.mp hk).1
      simp at this
      omega
    rw [h0] at hk
    have : d = e := by simpa using hk
    rw [← this, show k = i by omega]
    exact hd
theorem names_wp {n : Nat} {l : D} {K : Vl × List D → Prop} (h : Lf n l) (hn : n < 2 ^ 20) (q : ∀ (ns : List D) (l' : D), ns.length = 16 → (∀ d ∈ ns, Ne1 d) → ns.Nodup → Lf (n + 20) l' → K (.fr (.lst ns), [l', .int 16])) : @WO _ (F__law_some_names.sem [l, .int 16]) ⟨K⟩ := by
  rw [sem__law_some_names]
  simp_arith [b__law_some_names, sLS, cp__law_some_names_4, sig__law_pick]
  refine pick_wp (by assumption) (by omega) (by omega) (by omega) fun r1 l1 r1a r1b B1 => ?_
  simp_arith
  refine WO_if (by exact in62_small (by omega) (by omega)) ?_
  simp_arith
  refine W_compE (PL (n + 1)) ⟨[], l1, rfl, fun _ h => by simp at h, rfl, B1, rfl⟩ ?_ ?_
  · rintro i d ys e' hd ⟨cs, l2, rfl, hcs, hcl, B2, rfl⟩
    have hi := (rng_get hd).1
    simp_arith [ce__law_some_names_4, sig__law_pick]
    refine pick_wp (by assumption) (by omega) (by omega) (by omega) fun r2 l3 r2a r2b B3 => ?_
    simp_arith
    refine letter_wp (by omega) (by omega) fun c hc => ?_
    simp_arith
    exact ⟨cs ++ [c], l3, by simp, all_capp hcs hc, by simp [hcl], B3.mono (by omega), rfl⟩
  rintro ys e' ⟨cs, l2, rfl, hcs, hcl, B2, rfl⟩
  rw [rng_len] at hcl B2
  have j1 := join_sem cs (by omega) fun c hc => LT_low c (hcs c hc)
  simp_arith [List.length_map]
  refine WC_dec (by omega) ?_
  simp_arith [j1, cp__law_some_names_3]
  refine pick_wp (by assumption) (by omega) (by omega) (by omega) fun r3 l3 r3a r3b B3 => ?_
  simp_arith
  refine WO_if (by exact in62_small (by omega) (by omega)) ?_
  simp_arith
  refine W_compE (PL (n + 4)) ⟨[], l3, rfl, fun _ h => by simp at h, rfl, B3.mono (by omega), rfl⟩ ?_ ?_
  · rintro i d ys e' hd ⟨ds, l2, rfl, hds, hdl, B2, rfl⟩
    have hi := (rng_get hd).1
    simp_arith [ce__law_some_names_3]
    refine pick_wp (by assumption) (by omega) (by omega) (by omega) fun r2 l3 r2a r2b B3 => ?_
    simp_arith
    refine letter_wp (by omega) (by omega) fun c hc => ?_
    simp_arith
    exact ⟨ds ++ [c], l3, by simp, all_capp hds hc, by simp [hdl], B3.mono (by omega), rfl⟩
  rintro ys e' ⟨ds, l4, rfl, hds, hdl, B4, rfl⟩
  rw [rng_len] at hdl B4
  have j2 := join_sem ds (by omega) fun c hc => LT_low c (hds c hc)
  have hcs := signs_str hcs (m := 2) (by omega)
  have hds := signs_str hds (m := 2) (by omega)
  generalize (⟨cs.toArray⟩ : Str) = hdd at *
  generalize (⟨ds.toArray⟩ : Str) = tl at *
  simp_arith [List.length_map]
  refine WC_dec (by omega) ?_
  simp_arith [j2]
  refine pick_wp (by assumption) (by omega) (by omega) (by omega) fun fi l5 fia fib B5 => ?_
  simp_arith
  refine pick_wp (by assumption) (by omega) (by omega) (by omega) fun r6 l6 r6a r6b B6 => ?_
  simp_arith
  refine WO_atP (P := fun d => ∃ y : Int, d = .int y ∧ (y = 1 ∨ y = 3 ∨ y = 5 ∨ y = 7 ∨ y = 25 ∨ y = 675)) ?_ (by omega) (by simp; omega) ?_
  · iterate 6 refine all_cons ⟨_, rfl, by decide⟩ ?_
    exact all_nil
  rintro _ ⟨by', rfl, yy⟩
  have y0 : 1 ≤ by' := by omega
  have y1 : by' ≤ 675 := by omega
  simp_arith
  refine pick_wp (by assumption) (by omega) (by omega) (by omega) fun r7 l7 r7a r7b B7 => ?_
  simp_arith [eqD_int]
  refine WB_cases' (fun h7 => ?_) (fun h7 => ?_)
  · have f1 : s64 by' = true := s64_small (by omega) (by omega)
    simp_arith [cp__law_some_names_2]
    refine WO_if (by exact in62_small (by omega) (by omega)) ?_
    simp_arith
    refine W_compE (fun e0 i ys e => ys.length = i ∧ (∀ (k : Nat) (d : D), ys[k]? = some d → d = .str ⟨#[lt (Int.fmod (fi + by' * (0 + (k : Int))) 26)]⟩ ∧ lt (Int.fmod (fi + by' * (0 + (k : Int))) 26) ∈ PD.LT) ∧ e = e0) ⟨rfl, fun k d h => by simp at h, rfl⟩ ?_ ?_
    · rintro i d ys _ hd ⟨hl, hy, rfl⟩
      obtain ⟨hi, rfl⟩ := rng_get hd
      simp_arith [ce__law_some_names_2, f1, Bool.true_or]
      refine lt_wp (Int.fmod_nonneg_of_pos _ (by decide)) (Int.fmod_lt_of_pos _ (by decide)) fun hc => ?_
      simp_arith
      exact ⟨by simp [hl], snoc_at hl hy ⟨rfl, hc⟩, by trivial⟩
    rintro ys _ ⟨hl, hy, rfl⟩
    rw [rng_len] at hl
    simp_arith
    refine WC_dec (by omega) ?_
    simp_arith
    refine q _ _ hl ?_ (nodup_of hy fun i j d hi hj g1 g2 => ?_) (B7.mono (by omega))
    · intro d hd
      obtain ⟨k, hk⟩ := List.mem_iff_getElem?.mp hd
      obtain ⟨e, hc⟩ := hy k d hk
      exact ⟨_, e, .one (LT_low _ hc) (by decide), by show 1 ≤ Array.size #[_]; simp⟩
    · obtain ⟨e1, _⟩ := g1
      obtain ⟨e2, _⟩ := g2
      rw [e1] at e2
      have e3 : lt (Int.fmod (fi + by' * (0 + (i : Int))) 26) = lt (Int.fmod (fi + by' * (0 + (j : Int))) 26) := by simpa using e2
      have e4 := lt_inj (Int.fmod_nonneg_of_pos _ (by decide)) (Int.fmod_lt_of_pos _ (by decide)) (Int.fmod_nonneg_of_pos _ (by decide)) (Int.fmod_lt_of_pos _ (by decide)) e3
      rw [Int.fmod_eq_emod_of_nonneg _ (by decide), Int.fmod_eq_emod_of_nonneg _ (by decide)] at e4
      exact step_inj2 yy (by omega) (by omega) e4
  · simp_arith [fl__law_some_names_1]
    refine WO_if (by exact in62_small (by omega) (by omega)) ?_
    simp_arith
    refine W_forE (fun e0 i e => ∃ ns a b c, ns.length = i ∧ (∀ (k : Nat) (d : D), ns[k]? = some d → G2 hdd fi by' k d) ∧ e = puts e0 [(7, .ow (.lst ns)), (8, a), (9, b), (10, c)]) ⟨[], .em, .em, .em, rfl, fun k d h => by simp at h, rfl⟩ ?_ ?_
    · rintro i d _ hd ⟨ns, a, b, c, hl, hy, rfl⟩
      obtain ⟨hi, rfl⟩ := rng_get hd
      have f1 : s64 by' = true := s64_small (by omega) (by omega)
      have f2 : s64 (0 + (i : Int)) = true := s64_small (by omega) (by omega)
      simp_arith [fb__law_some_names_1, f1, f2]
      have v0 := Int.fmod_nonneg_of_pos (fi + by' * (0 + (i : Int))) (b := 676) (by decide)
      have v1 := Int.fmod_lt_of_pos (fi + by' * (0 + (i : Int))) (b := 676) (by decide)
      have key : ∀ t : Str, As 2 t → G2 hdd fi by' i (.str ((hdd ++ (⟨#[lt (Int.fdiv (Int.fmod (fi + by' * (0 + (i : Int))) 676) 26)]⟩ ++ ⟨#[lt (Int.fmod (Int.fmod (fi + by' * (0 + (i : Int))) 676) 26)]⟩)) ++ t)) := fun t ht => ⟨t, ht, rfl⟩
      generalize Int.fmod (fi + by' * (0 + (i : Int))) 676 = v at *
      refine lt_wp (Int.fdiv_nonneg v0 (by decide)) (by rw [Int.fdiv_eq_ediv_of_nonneg _ (by decide)]; omega) fun hc1 => ?_
      simp_arith
      refine lt_wp (Int.fmod_nonneg_of_pos _ (by decide)) (Int.fmod_lt_of_pos _ (by decide)) fun hc2 => ?_
      simp_arith
      generalize lt (Int.fdiv v 26) = c1 at *
      generalize lt (Int.fmod v 26) = c2 at *
      have a1 : As 1 (⟨#[c1]⟩ : Str) := .one (LT_low c1 hc1) (by decide)
      have a2 : As 1 (⟨#[c2]⟩ : Str) := .one (LT_low c2 hc2) (by decide)
      generalize (⟨#[c1]⟩ : Str) = x1 at *
      generalize (⟨#[c2]⟩ : Str) = x2 at *
      have a3 := a1.app a2
      have a4 := hcs.app a3
      have n1 := a1.len
      have n2 := a2.len
      have n3 := a3.len
      have n4 := a4.len
      have n5 := hcs.len
      have n6 := hds.len
      refine WO_ifd (by omega) ?_
      simp_arith
      refine WO_ifd (by omega) ?_
      simp_arith [f2]
      have a5 := hds.cut none (some (Int.fmod ((0 + (i : Int)) * (0 + (i : Int)) + fi) 3))
      have n7 := a5.len
      refine WO_ifd (by omega) ?_
      simp_arith
      refine WO_ifd (by omega) ?_
      simp_arith
      refine WO_ifd (by omega) ?_
      simp_arith
      exact ⟨_, _, _, _, by simp [hl], snoc_at hl hy (key _ a5), rfl⟩
    · rintro _ ⟨ns, a, b, c, hl, hy, rfl⟩
      rw [rng_len] at hl
      simp_arith
      refine q _ _ hl (fun d hd => ?_) (nodup_of hy fun i j d hi hj g1 g2 => G2.inj yy (by omega) (by omega) g1 g2) (B7.mono (by omega))
      obtain ⟨k, hk⟩ := List.mem_iff_getElem?.mp hd
      exact (hy k d hk).ne hcs
end L_k16
namespace L_k16
open PySem PySem.Spec PyProof.Rows L2 PD
local macro_rules | `(tactic| simp_arith [$xs,*]) => `(tactic| try simp only [↓W_rt, ↓W_bd, ↓W_eC, ↓W_eV, ↓W_cN, ↓W_cA, ↓W_eP, ↓W_eM, ↓W_ckT, ↓W_eU, ↓W_eTup, ↓W_eLst, ↓W_eDk, ↓W_eDt, ↓W_mB, ↓W_mT, ↓W_mNot, ↓W_mAnd, ↓W_mOr, ↓W_eNot, ↓W_eAnd, ↓W_eOr, ↓W_eIf, ↓W_eTmp, ↓W_mTmp, ↓W_oN, ↓W_oS, ↓W_eSl, ↓W_eChain, ↓W_sNil, ↓W_sPass, ↓W_sBrk, ↓W_sCnt, ↓W_sRetN, ↓W_sSeq, ↓W_sExp, ↓W_sRet, ↓W_sIf, ↓W_sAsg, ↓W_gsN, ↓W_gsC, ↓W_gT, ↓W_gTl, ↓W_gS, ↓W_hb_im, ↓W_hb_fr, ↓W_hb_bo, ↓W_sPF, ↓W_sPF3, ↓W_gN_im, ↓W_gN_fr, ↓W_gN_bo, ↓W_frz_im, ↓W_frz_fr, ↓W_frz_bo, ↓W_frzs_nil, ↓W_frzs_cons, ↓W_frzA_nil, ↓W_frzA_t, ↓W_frzA_im, ↓W_frzA_bo, ↓W_callE, ↓W_eCallN, ↓W_eCallF, ↓WO_runF, ↓W_mR1, ↓W_mR2, ↓W_mLst, ↓W_mTup, ↓W_mEnum, ↓W_mEnumT, ↓W_mStr, ↓W_mZip, ↓W_sFor, ↓W_sWhl, ↓W_eComp, ↓W_eTupB, ↓W_sAug, ↓W_mZipM, ↓W_gT_Fld, ↓W_gT_Gt, ↓W_gT_Lt, ↓W_gT_bD, ↓W_gT_Dn, ↓W_gT_Rw, ↓Fld_i0, ↓Fld_i1, ↓Fld_i2, ↓Fld_i3, ↓Fld_i4, ↓Gt_i0, ↓Gt_i1, ↓Gt_i2, ↓Gt_i3, ↓Lt_i0, ↓Lt_i1, ↓Lt_i2, ↓bD_i0, ↓bD_i1, ↓Dn_i0, ↓Dn_i1, ↓Dn_i2, ↓Dn_i3, ↓Rw_i0, ↓Rw_i1, ↓Rw_i2, ↓Rw_i3, ↓Rw_i4, ↓Rw_i5, ↓Rw_i6, ↓Ter_i0, ↓Ter_i1, WO_map, WO_some, WO_none, WB_true, WB_false, WC_true, goes_nx, goes_ct, goes_bk, goes_rt, cut_nx, cut_bk, cut_ct, cut_rt, puts_nil, puts_cons, List.getElem?_cons_zero, List.getElem?_cons_succ, setO, frzO_eq, Option.map_some, putO, putC, List.set_cons_zero, List.set_cons_succ, mutAtD, PD.cnts, PD.cnt, Vl.hold, tyT, beq_self_eq_true, small_eq, lessL_eq, decide_true, decide_false, List.length_cons, List.length_nil, mkE, List.replicate_succ, List.replicate_zero, List.cons_append, List.nil_append, outE, retV, ioAll, ioIx, brIx, mutAt, updE, disj, nmOut, Vl.nm, D.nm, D.nmC, nms, Sl.mut, Sl.frz, D.atom, List.map_cons, List.map_nil, wipeE, unwipe, calm_em, calm_im, calm_none, List.all_cons, List.all_nil, Bool.and_true, Bool.true_and, Bool.and_self, Bool.or_true, Bool.or_self, Bool.true_or, Bool.false_or, Bool.or_false, Bool.not_true, Bool.not_false, Bool.and_false, Bool.false_and, List.isEmpty_nil, List.isEmpty_cons, List.nodup_cons, List.nodup_nil, List.not_mem_nil, not_false_eq_true, and_self, List.contains_nil, if_true, if_false, Bool.false_eq_true, ite_true, ite_false, rg1, rg2, seqL, seqT, zipO, addD, subD, mulD, divD, modD, powD, negD, ltD, leD, gtD, geD, lenD, absD, minD, maxD, PD.intD, ixD, isnD, appendD, reverseD, extendD, slD, setD, listD, tupleD, tupleBD, truD, at0, at1, at2, at3, at4, at5, at6, at7, sd0, sd1, sd2, sd3, ixN, Int.cast_ofNat_Int, Int.reduceEq, Int.reduceNe, Int.reduceLT, Int.reduceLE, Int.reduceNeg, Int.reduceAdd, Int.reduceSub, Int.reduceMul, Int.reducePow, Nat.reducePow, Int.reduceToNat, Int.reduceAbs, ne_eq, not_true_eq_false, Nat.zero_add, Nat.add_zero, Nat.reduceAdd, Nat.reduceSub, Nat.reduceLT, Nat.reduceLeDiff, Nat.reduceEqDiff, Nat.reduceMul, i63_0, i63_1, zipMO_lt, zipMO_tl, zipMO_ll, List.flatten_cons, List.flatten_nil, Nat.lt_irrefl, reduceCtorEq, Nat.zero_lt_succ, Nat.reduceSubDiff, Nat.sub_zero, Nat.sub_self, Bool.not_eq_true, Bool.not_eq_false, sig__law_pick, sig__law_mix, sig__law_some_names, $xs,*])
local macro_rules | `(tactic| simp_arith) => `(tactic| try simp only [↓W_rt, ↓W_bd, ↓W_eC, ↓W_eV, ↓W_cN, ↓W_cA, ↓W_eP, ↓W_eM, ↓W_ckT, ↓W_eU, ↓W_eTup, ↓W_eLst, ↓W_eDk, ↓W_eDt, ↓W_mB, ↓W_mT, ↓W_mNot, ↓W_mAnd, ↓W_mOr, ↓W_eNot, ↓W_eAnd, ↓W_eOr, ↓W_eIf, ↓W_eTmp, ↓W_mTmp, ↓W_oN, ↓W_oS, ↓W_eSl, ↓W_eChain, ↓W_sNil, ↓W_sPass, ↓W_sBrk, ↓W_sCnt, ↓W_sRetN, ↓W_sSeq, ↓W_sExp, ↓W_sRet, ↓W_sIf, ↓W_sAsg, ↓W_gsN, ↓W_gsC, ↓W_gT, ↓W_gTl, ↓W_gS, ↓W_hb_im, ↓W_hb_fr, ↓W_hb_bo, ↓W_sPF, ↓W_sPF3, ↓W_gN_im, ↓W_gN_fr, ↓W_gN_bo, ↓W_frz_im, ↓W_frz_fr, ↓W_frz_bo, ↓W_frzs_nil, ↓W_frzs_cons, ↓W_frzA_nil, ↓W_frzA_t, ↓W_frzA_im, ↓W_frzA_bo, ↓W_callE, ↓W_eCallN, ↓W_eCallF, ↓WO_runF, ↓W_mR1, ↓W_mR2, ↓W_mLst, ↓W_mTup, ↓W_mEnum, ↓W_mEnumT, ↓W_mStr, ↓W_mZip, ↓W_sFor, ↓W_sWhl, ↓W_eComp, ↓W_eTupB, ↓W_sAug, ↓W_mZipM, ↓W_gT_Fld, ↓W_gT_Gt, ↓W_gT_Lt, ↓W_gT_bD, ↓W_gT_Dn, ↓W_gT_Rw, ↓Fld_i0, ↓Fld_i1, ↓Fld_i2, ↓Fld_i3, ↓Fld_i4, ↓Gt_i0, ↓Gt_i1, ↓Gt_i2, ↓Gt_i3, ↓Lt_i0, ↓Lt_i1, ↓Lt_i2, ↓bD_i0, ↓bD_i1, ↓Dn_i0, ↓Dn_i1, ↓Dn_i2, ↓Dn_i3, ↓Rw_i0, ↓Rw_i1, ↓Rw_i2, ↓Rw_i3, ↓Rw_i4, ↓Rw_i5, ↓Rw_i6, ↓Ter_i0, ↓Ter_i1, WO_map, WO_some, WO_none, WB_true, WB_false, WC_true, goes_nx, goes_ct, goes_bk, goes_rt, cut_nx, cut_bk, cut_ct, cut_rt, puts_nil, puts_cons, List.getElem?_cons_zero, List.getElem?_cons_succ, setO, frzO_eq, Option.map_some, putO, putC, List.set_cons_zero, List.set_cons_succ, mutAtD, PD.cnts, PD.cnt, Vl.hold, tyT, beq_self_eq_true, small_eq, lessL_eq, decide_true, decide_false, List.length_cons, List.length_nil, mkE, List.replicate_succ, List.replicate_zero, List.cons_append, List.nil_append, outE, retV, ioAll, ioIx, brIx, mutAt, updE, disj, nmOut, Vl.nm, D.nm, D.nmC, nms, Sl.mut, Sl.frz, D.atom, List.map_cons, List.map_nil, wipeE, unwipe, calm_em, calm_im, calm_none, List.all_cons, List.all_nil, Bool.and_true, Bool.true_and, Bool.and_self, Bool.or_true, Bool.or_self, Bool.true_or, Bool.false_or, Bool.or_false, Bool.not_true, Bool.not_false, Bool.and_false, Bool.false_and, List.isEmpty_nil, List.isEmpty_cons, List.nodup_cons, List.nodup_nil, List.not_mem_nil, not_false_eq_true, and_self, List.contains_nil, if_true, if_false, Bool.false_eq_true, ite_true, ite_false, rg1, rg2, seqL, seqT, zipO, addD, subD, mulD, divD, modD, powD, negD, ltD, leD, gtD, geD, lenD, absD, minD, maxD, PD.intD, ixD, isnD, appendD, reverseD, extendD, slD, setD, listD, tupleD, tupleBD, truD, at0, at1, at2, at3, at4, at5, at6, at7, sd0, sd1, sd2, sd3, ixN, Int.cast_ofNat_Int, Int.reduceEq, Int.reduceNe, Int.reduceLT, Int.reduceLE, Int.reduceNeg, Int.reduceAdd, Int.reduceSub, Int.reduceMul, Int.reducePow, Nat.reducePow, Int.reduceToNat, Int.reduceAbs, ne_eq, not_true_eq_false, Nat.zero_add, Nat.add_zero, Nat.reduceAdd, Nat.reduceSub, Nat.reduceLT, Nat.reduceLeDiff, Nat.reduceEqDiff, Nat.reduceMul, i63_0, i63_1, zipMO_lt, zipMO_tl, zipMO_ll, List.flatten_cons, List.flatten_nil, Nat.lt_irrefl, reduceCtorEq, Nat.zero_lt_succ, Nat.reduceSubDiff, Nat.sub_zero, Nat.sub_self, Bool.not_eq_true, Bool.not_eq_false, sig__law_pick, sig__law_mix, sig__law_some_names])
def NmOk (x : Str) : Prop := As 8 x ∧ 1 ≤ x.length
theorem strs_of : ∀ {ns : List D}, (∀ d ∈ ns, Ne1 d) → ∃ xs : List Str, ns = xs.map D.str ∧ ∀ x ∈ xs, NmOk x
  | [], _ => ⟨[], rfl, fun _ h => by simp at h⟩
  | d :: ns, h => by
    obtain ⟨x, rfl, h1, h2⟩ := h d (List.mem_cons_self ..)
    obtain ⟨xs, rfl, h3⟩ := strs_of (ns := ns) fun d hd => h d (List.mem_cons_of_mem _ hd)
    exact ⟨x :: xs, rfl, fun y hy => by
      rcases List.mem_cons.mp hy with rfl | hy
      · exact ⟨h1, h2⟩
      · exact h3 y hy⟩
theorem fields_run {n k : Nat} {l : D} {xs : List Str} {w : Int} {b : Bool} {s4 : Sl} {a8 a9 a10 a11 : Sl} {Q : Fl → PD.Env → Prop} (h : Lf n l) (hn : n < 2 ^ 19) (hx : xs.length = 16) (hxs : ∀ x ∈ xs, NmOk x) (hw0 : 0 ≤ w) (hw1 : w < 3) (hk : k ≤ 8)
    (q : ∀ (fl : List Fld) (l' : D) (a8 a9 a10 a11 : Sl), fl.length = k → Cr (xs.map D.str) fl → Lf (n + 80) l' → Q .nx [.io 0 l', .im (.bl b), .ow (.lst (xs.map D.str)), .ow (.lst (fl.map Fld.d)), s4, .im (.int (k : Int)), .im (.int w), .ow (.lst (((xs.drop 6).take 6).map D.str)), a8, a9, a10, a11, .em, .em, .em, .em, .em]) :
    @W _ fl__law_terrace_5 [.io 0 l, .im (.bl b), .ow (.lst (xs.map D.str)), .ow (.lst []), s4, .im (.int (k : Int)), .im (.int w), .ow (.lst (((xs.drop 6).take 6).map D.str)), a8, a9, a10, a11, .em, .em, .em, .em, .em] ⟨Q⟩ := by
  have hm : (xs.map D.str).length = 16 := by rw [List.length_map, hx]
  have ho : (((xs.drop 6).take 6).map D.str).length = 6 := by rw [List.length_map, List.length_take, List.length_drop, hx]; rfl
  have hoP : ∀ d ∈ ((xs.drop 6).take 6).map D.str, Has (.str 8) d := fun d hd => by
    obtain ⟨x, hx', rfl⟩ := List.mem_map.mp hd
    exact Has.mkS (hxs x (List.mem_of_mem_drop (List.mem_of_mem_take hx'))).1
  simp_arith [fl__law_terrace_5]
  refine WO_if (by exact in62_small (by omega) (by omega)) ?_
  simp_arith
  refine W_forE (fun e0 i e => ∃ l fl a b c d, fl.length = i ∧ Cr (xs.map D.str) fl ∧ Lf (n + 9 * i) l ∧ e = puts e0 [(0, .io 0 l), (3, .ow (.lst (fl.map Fld.d))), (8, a), (9, b), (10, c), (11, d)]) ⟨l, [], _, _, _, _, rfl, fun k g h => by simp at h, h, rfl⟩ ?_ ?_
  · rintro i d _ hd ⟨l1, fl, a, b', c, d', hfl, hcr, B1, rfl⟩
    obtain ⟨hi, rfl⟩ := rng_get hd
    have hi' : i < k := by omega
    obtain ⟨x, hxi, hxm⟩ := at_of (l := xs) (i := i) (by omega)
    have hxD : (xs.map D.str)[i]? = some (.str x) := by rw [List.getElem?_map, hxi]; rfl
    have hat : L2.atI (xs.map D.str) (0 + (i : Int)) = some (.str x) := by rw [Int.zero_add]; exact at_nat hxD
    have hbP : ∀ d ∈ D.str noS :: cutD (xs.map D.str) none (some (0 + (i : Int))), ∃ y, d = .str y ∧ As 8 y ∧ Blw fl i y := fun d hd => by
      rcases List.mem_cons.mp hd with rfl | hd
      · exact ⟨noS, rfl, As.empty, .inl rfl⟩
      · rw [Int.zero_add, cut_take] at hd
        obtain ⟨j, hj⟩ := List.mem_iff_getElem?.mp hd
        rw [List.getElem?_take] at hj
        split at hj
        · rename_i hji
          obtain ⟨f, hf, hfm⟩ := at_of (l := fl) (i := j) (by omega)
          have := (hcr j f hf).1
          rw [hj] at this
          cases this
          exact ⟨f.nm, rfl, (hcr j f hf).2.1.1.1, .inr ⟨j, f, hji, hf, rfl⟩⟩
        · cases hj
    have hbL : (cutD (xs.map D.str) none (some (0 + (i : Int)))).length = i := by
      rw [Int.zero_add, cut_take, List.length_take, hm]
      omega
    have hml : (fl.map Fld.d).length = i := by rw [List.length_map, hfl]
    simp_arith [fb__law_terrace_5]
    refine WO_ifd (by rw [hbL]; omega) ?_
    simp_arith
    refine pick_wp (by assumption) (by omega) (by omega) (by omega) fun r1 l2 r1a r1b B2 => ?_
    simp_arith
    refine WO_atP (P := fun d => ∃ j : Int, d = .int j ∧ 0 ≤ j ∧ j ≤ i) ?_ (by omega) (by simp; omega) ?_
    · refine all_cons ⟨_, rfl, by omega, by omega⟩ (all_cons ⟨_, rfl, by omega, by omega⟩ (all_cons ⟨_, rfl, by split <;> omega, by split <;> omega⟩ all_nil))
    rintro _ ⟨j, rfl, j0, j1⟩
    simp_arith
    refine WO_atP hbP j0 (by rw [List.length_cons, hbL]; omega) ?_
    rintro _ ⟨y, rfl, hy, hblw⟩
    simp_arith
    refine pick_wp (by assumption) (by omega) (by omega) (by omega) fun r2 l3 r2a r2b B3 => ?_
    simp_arith
    refine pick_wp (by assumption) (by omega) (by omega) (by omega) fun r3 l4 r3a r3b B4 => ?_
    simp_arith
    refine pick_wp (by assumption) (by omega) (by omega) (by omega) fun r4 l5 r4a r4b B5 => ?_
    simp_arith
    refine pick_wp (by assumption) (by omega) (by omega) (by omega) fun r5 l6 r5a r5b B6 => ?_
    simp_arith
    refine WO_atP (P := Has (.int 1 999)) ?_ (by omega) (by simp; omega) ?_
    · iterate 3 refine all_cons (Has.mkI (by omega) (by omega)) ?_
      exact all_nil
    rintro _ ⟨dy, rfl, dy0, dy1⟩
    simp_arith
    refine pick_wp (by assumption) (by omega) (by omega) (by omega) fun r6 l7 r6a r6b B7 => ?_
    simp_arith
    refine pick_wp (by assumption) (by omega) (by omega) (by omega) fun r7 l8 r7a r7b B8 => ?_
    simp_arith
    refine pick_wp (by assumption) (by omega) (by omega) (by omega) fun r8 l9 r8a r8b B9 => ?_
    simp_arith
    refine WO_atP (P := Has (.int 0 99)) ?_ (by omega) (by simp; omega) ?_
    · iterate 3 refine all_cons (Has.mkI (by omega) (by omega)) ?_
      exact all_nil
    rintro _ ⟨so, rfl, so0, so1⟩
    simp_arith [hat]
    refine pick_wp (by assumption) (by omega) (by omega) (by omega) fun r9 l10 r9a r9b B10 => ?_
    simp_arith
    refine WO_atP hoP (by omega) (by omega) ?_
    rintro _ ⟨o, rfl, hoo⟩
    simp_arith
    refine WO_ifd (by omega) ?_
    simp_arith
    have em : fl.map Fld.d ++ [D.tup [.str x, .str o, .str y, .int dy, .int so]] = (fl ++ [(⟨x, o, y, dy, so⟩ : Fld)]).map Fld.d := by
      rw [List.map_append]
      rfl
    rw [em]
    exact ⟨l10, fl ++ [⟨x, o, y, dy, so⟩], _, _, _, _, by simp [hfl], hcr.snoc hfl hxD ⟨(show As 8 x ∧ 1 ≤ x.length from hxs x hxm), hoo, hy, dy0, dy1, so0, so1⟩ hblw, B10.mono (by omega), rfl⟩
  · rintro _ ⟨l1, fl, a, b', c, d', hfl, hcr, B1, rfl⟩
    rw [rng_len] at hfl B1
    have hk2 : ((k : Int) - 0).toNat = k := by omega
    simp_arith
    exact q fl l1 a b' c d' (by omega) hcr (B1.mono (by omega))
end L_k16
namespace L_k16
open PySem PySem.Spec PyProof.Rows L2 PD
local macro_rules | `(tactic| simp_arith [$xs,*]) => `(tactic| try simp only [↓W_rt, ↓W_bd, ↓W_eC, ↓W_eV, ↓W_cN, ↓W_cA, ↓W_eP, ↓W_eM, ↓W_ckT, ↓W_eU, ↓W_eTup, ↓W_eLst, ↓W_eDk, ↓W_eDt, ↓W_mB, ↓W_mT, ↓W_mNot, ↓W_mAnd, ↓W_mOr, ↓W_eNot, ↓W_eAnd, ↓W_eOr, ↓W_eIf, ↓W_eTmp, ↓W_mTmp, ↓W_oN, ↓W_oS, ↓W_eSl, ↓W_eChain, ↓W_sNil, ↓W_sPass, ↓W_sBrk, ↓W_sCnt, ↓W_sRetN, ↓W_sSeq, ↓W_sExp, ↓W_sRet, ↓W_sIf, ↓W_sAsg, ↓W_gsN, ↓W_gsC, ↓W_gT, ↓W_gTl, ↓W_gS, ↓W_hb_im, ↓W_hb_fr, ↓W_hb_bo, ↓W_sPF, ↓W_sPF3, ↓W_gN_im, ↓W_gN_fr, ↓W_gN_bo, ↓W_frz_im, ↓W_frz_fr, ↓W_frz_bo, ↓W_frzs_nil, ↓W_frzs_cons, ↓W_frzA_nil, ↓W_frzA_t, ↓W_frzA_im, ↓W_frzA_bo, ↓W_callE, ↓W_eCallN, ↓W_eCallF, ↓WO_runF, ↓W_mR1, ↓W_mR2, ↓W_mLst, ↓W_mTup, ↓W_mEnum, ↓W_mEnumT, ↓W_mStr, ↓W_mZip, ↓W_sFor, ↓W_sWhl, ↓W_eComp, ↓W_eTupB, ↓W_sAug, ↓W_mZipM, ↓W_gT_Fld, ↓W_gT_Gt, ↓W_gT_Lt, ↓W_gT_bD, ↓W_gT_Dn, ↓W_gT_Rw, ↓Fld_i0, ↓Fld_i1, ↓Fld_i2, ↓Fld_i3, ↓Fld_i4, ↓Gt_i0, ↓Gt_i1, ↓Gt_i2, ↓Gt_i3, ↓Lt_i0, ↓Lt_i1, ↓Lt_i2, ↓bD_i0, ↓bD_i1, ↓Dn_i0, ↓Dn_i1, ↓Dn_i2, ↓Dn_i3, ↓Rw_i0, ↓Rw_i1, ↓Rw_i2, ↓Rw_i3, ↓Rw_i4, ↓Rw_i5, ↓Rw_i6, ↓Ter_i0, ↓Ter_i1, WO_map, WO_some, WO_none, WB_true, WB_false, WC_true, goes_nx, goes_ct, goes_bk, goes_rt, cut_nx, cut_bk, cut_ct, cut_rt, puts_nil, puts_cons, List.getElem?_cons_zero, List.getElem?_cons_succ, setO, frzO_eq, Option.map_some, putO, putC, List.set_cons_zero, List.set_cons_succ, mutAtD, PD.cnts, PD.cnt, Vl.hold, tyT, beq_self_eq_true, small_eq, lessL_eq, decide_true, decide_false, List.length_cons, List.length_nil, mkE, List.replicate_succ, List.replicate_zero, List.cons_append, List.nil_append, outE, retV, ioAll, ioIx, brIx, mutAt, updE, disj, nmOut, Vl.nm, D.nm, D.nmC, nms, Sl.mut, Sl.frz, D.atom, List.map_cons, List.map_nil, wipeE, unwipe, calm_em, calm_im, calm_none, List.all_cons, List.all_nil, Bool.and_true, Bool.true_and, Bool.and_self, Bool.or_true, Bool.or_self, Bool.true_or, Bool.false_or, Bool.or_false, Bool.not_true, Bool.not_false, Bool.and_false, Bool.false_and, List.isEmpty_nil, List.isEmpty_cons, List.nodup_cons, List.nodup_nil, List.not_mem_nil, not_false_eq_true, and_self, List.contains_nil, if_true, if_false, Bool.false_eq_true, ite_true, ite_false, rg1, rg2, seqL, seqT, zipO, addD, subD, mulD, divD, modD, powD, negD, ltD, leD, gtD, geD, lenD, absD, minD, maxD, PD.intD, ixD, isnD, appendD, reverseD, extendD, slD, setD, listD, tupleD, tupleBD, truD, at0, at1, at2, at3, at4, at5, at6, at7, sd0, sd1, sd2, sd3, ixN, Int.cast_ofNat_Int, Int.reduceEq, Int.reduceNe, Int.reduceLT, Int.reduceLE, Int.reduceNeg, Int.reduceAdd, Int.reduceSub, Int.reduceMul, Int.reducePow, Nat.reducePow, Int.reduceToNat, Int.reduceAbs, ne_eq, not_true_eq_false, Nat.zero_add, Nat.add_zero, Nat.reduceAdd, Nat.reduceSub, Nat.reduceLT, Nat.reduceLeDiff, Nat.reduceEqDiff, Nat.reduceMul, i63_0, i63_1, zipMO_lt, zipMO_tl, zipMO_ll, List.flatten_cons, List.flatten_nil, Nat.lt_irrefl, reduceCtorEq, Nat.zero_lt_succ, Nat.reduceSubDiff, Nat.sub_zero, Nat.sub_self, Bool.not_eq_true, Bool.not_eq_false, sig__law_pick, sig__law_mix, sig__law_some_names, $xs,*])
local macro_rules | `(tactic| simp_arith) => `(tactic| try simp only [↓W_rt, ↓W_bd, ↓W_eC, ↓W_eV, ↓W_cN, ↓W_cA, ↓W_eP, ↓W_eM, ↓W_ckT, ↓W_eU, ↓W_eTup, ↓W_eLst, ↓W_eDk, ↓W_eDt, ↓W_mB, ↓W_mT, ↓W_mNot, ↓W_mAnd, ↓W_mOr, ↓W_eNot, ↓W_eAnd, ↓W_eOr, ↓W_eIf, ↓W_eTmp, ↓W_mTmp, ↓W_oN, ↓W_oS, ↓W_eSl, ↓W_eChain, ↓W_sNil, ↓W_sPass, ↓W_sBrk, ↓W_sCnt, ↓W_sRetN, ↓W_sSeq, ↓W_sExp, ↓W_sRet, ↓W_sIf, ↓W_sAsg, ↓W_gsN, ↓W_gsC, ↓W_gT, ↓W_gTl, ↓W_gS, ↓W_hb_im, ↓W_hb_fr, ↓W_hb_bo, ↓W_sPF, ↓W_sPF3, ↓W_gN_im, ↓W_gN_fr, ↓W_gN_bo, ↓W_frz_im, ↓W_frz_fr, ↓W_frz_bo, ↓W_frzs_nil, ↓W_frzs_cons, ↓W_frzA_nil, ↓W_frzA_t, ↓W_frzA_im, ↓W_frzA_bo, ↓W_callE, ↓W_eCallN, ↓W_eCallF, ↓WO_runF, ↓W_mR1, ↓W_mR2, ↓W_mLst, ↓W_mTup, ↓W_mEnum, ↓W_mEnumT, ↓W_mStr, ↓W_mZip, ↓W_sFor, ↓W_sWhl, ↓W_eComp, ↓W_eTupB, ↓W_sAug, ↓W_mZipM, ↓W_gT_Fld, ↓W_gT_Gt, ↓W_gT_Lt, ↓W_gT_bD, ↓W_gT_Dn, ↓W_gT_Rw, ↓Fld_i0, ↓Fld_i1, ↓Fld_i2, ↓Fld_i3, ↓Fld_i4, ↓Gt_i0, ↓Gt_i1, ↓Gt_i2, ↓Gt_i3, ↓Lt_i0, ↓Lt_i1, ↓Lt_i2, ↓bD_i0, ↓bD_i1, ↓Dn_i0, ↓Dn_i1, ↓Dn_i2, ↓Dn_i3, ↓Rw_i0, ↓Rw_i1, ↓Rw_i2, ↓Rw_i3, ↓Rw_i4, ↓Rw_i5, ↓Rw_i6, ↓Ter_i0, ↓Ter_i1, WO_map, WO_some, WO_none, WB_true, WB_false, WC_true, goes_nx, goes_ct, goes_bk, goes_rt, cut_nx, cut_bk, cut_ct, cut_rt, puts_nil, puts_cons, List.getElem?_cons_zero, List.getElem?_cons_succ, setO, frzO_eq, Option.map_some, putO, putC, List.set_cons_zero, List.set_cons_succ, mutAtD, PD.cnts, PD.cnt, Vl.hold, tyT, beq_self_eq_true, small_eq, lessL_eq, decide_true, decide_false, List.length_cons, List.length_nil, mkE, List.replicate_succ, List.replicate_zero, List.cons_append, List.nil_append, outE, retV, ioAll, ioIx, brIx, mutAt, updE, disj, nmOut, Vl.nm, D.nm, D.nmC, nms, Sl.mut, Sl.frz, D.atom, List.map_cons, List.map_nil, wipeE, unwipe, calm_em, calm_im, calm_none, List.all_cons, List.all_nil, Bool.and_true, Bool.true_and, Bool.and_self, Bool.or_true, Bool.or_self, Bool.true_or, Bool.false_or, Bool.or_false, Bool.not_true, Bool.not_false, Bool.and_false, Bool.false_and, List.isEmpty_nil, List.isEmpty_cons, List.nodup_cons, List.nodup_nil, List.not_mem_nil, not_false_eq_true, and_self, List.contains_nil, if_true, if_false, Bool.false_eq_true, ite_true, ite_false, rg1, rg2, seqL, seqT, zipO, addD, subD, mulD, divD, modD, powD, negD, ltD, leD, gtD, geD, lenD, absD, minD, maxD, PD.intD, ixD, isnD, appendD, reverseD, extendD, slD, setD, listD, tupleD, tupleBD, truD, at0, at1, at2, at3, at4, at5, at6, at7, sd0, sd1, sd2, sd3, ixN, Int.cast_ofNat_Int, Int.reduceEq, Int.reduceNe, Int.reduceLT, Int.reduceLE, Int.reduceNeg, Int.reduceAdd, Int.reduceSub, Int.reduceMul, Int.reducePow, Nat.reducePow, Int.reduceToNat, Int.reduceAbs, ne_eq, not_true_eq_false, Nat.zero_add, Nat.add_zero, Nat.reduceAdd, Nat.reduceSub, Nat.reduceLT, Nat.reduceLeDiff, Nat.reduceEqDiff, Nat.reduceMul, i63_0, i63_1, zipMO_lt, zipMO_tl, zipMO_ll, List.flatten_cons, List.flatten_nil, Nat.lt_irrefl, reduceCtorEq, Nat.zero_lt_succ, Nat.reduceSubDiff, Nat.sub_zero, Nat.sub_self, Bool.not_eq_true, Bool.not_eq_false, sig__law_pick, sig__law_mix, sig__law_some_names])
theorem has_strs {n : Nat} : ∀ {ns : List D}, (∀ d ∈ ns, Has (.str n) d) → ∃ xs : List Str, ns = xs.map D.str ∧ ∀ x ∈ xs, As n x
  | [], _ => ⟨[], rfl, fun _ h => by simp at h⟩
  | d :: ns, h => by
    obtain ⟨x, rfl, h1⟩ := h d (List.mem_cons_self ..)
    obtain ⟨xs, rfl, h3⟩ := has_strs (ns := ns) fun d hd => h d (List.mem_cons_of_mem _ hd)
    exact ⟨x :: xs, rfl, fun y hy => by
      rcases List.mem_cons.mp hy with rfl | hy
      · exact h1
      · exact h3 y hy⟩
/-- one of the fields' names -/
def FN (fl : List Fld) (d : D) : Prop := ∃ x, d = .str x ∧ As 8 x ∧ ∃ f ∈ fl, f.nm = x
def Gs (xs : List Str) (fl : List Fld) (gs : List Gt) : Prop := ∀ (j : Nat) (g : Gt), gs[j]? = some g → g.ok fl ∧ xs[15 - j]? = some g.nm
theorem gates_run {n k : Nat} {l : D} {xs : List Str} {w : Int} {b : Bool} {s3 : Sl} {a8 a9 a10 a11 : Sl} {fl : List Fld} {Q : Fl → PD.Env → Prop} (h : Lf n l) (hn : n < 2 ^ 19) (hx : xs.length = 16) (hxs : ∀ x ∈ xs, NmOk x) (hk : fl.length = k) (hk8 : k ≤ 8) (hk0 : 1 ≤ k) (hcr : Cr (xs.map D.str) fl)
    (q : ∀ (gs : List Gt) (e : PD.Env) (l' : D), gs.length ≤ 4 → Gs xs fl gs → Lf (n + 100) l' → e[0]? = some (.io 0 l') → e[1]? = some (.im (.bl b)) → e[3]? = some s3 → e[4]? = some (.ow (.lst (gs.map Gt.d))) → e.length = 17 → (∀ i sl, 4 < i → e[i]? = some sl → True) → Q .nx e) :
    @W _ fl__law_terrace_4 [.io 0 l, .im (.bl b), .ow (.lst (xs.map D.str)), s3, .ow (.lst []), .im (.int (k : Int)), .im (.int w), .ow (.lst (((xs.drop 6).take 6).map D.str)), a8, a9, a10, a11, .em, .em, .em, .em, .em] ⟨Q⟩ := by
  have hm : (xs.map D.str).length = 16 := by rw [List.length_map, hx]
  have hxP : ∀ d ∈ xs.map D.str, Has (.str 8) d := strs_has fun x hx => (hxs x hx).1
  have ho : (((xs.drop 6).take 6).map D.str).length = 6 := by rw [List.length_map, List.length_take, List.length_drop, hx]; rfl
  have hoP : ∀ d ∈ ((xs.drop 6).take 6).map D.str, Has (.str 8) d := fun d hd => by
    obtain ⟨x, hx', rfl⟩ := List.mem_map.mp hd
    exact Has.mkS (hxs x (List.mem_of_mem_drop (List.mem_of_mem_take hx'))).1
  have hfn : ∀ (j : Nat) (d : D), j < k → (xs.map D.str)[j]? = some d → FN fl d := fun j d hj hd => by
    obtain ⟨f, hf, hfm⟩ := at_of (l := fl) (i := j) (by omega)
    have := (hcr j f hf).1
    rw [hd] at this
    cases this
    exact ⟨f.nm, rfl, (hcr j f hf).2.1.1.1, f, hfm, rfl⟩
  simp_arith [fl__law_terrace_4]
  refine pick_wp (by assumption) (by omega) (by omega) (by omega) fun r0 l0 r0a r0b B0 => ?_
  have hcnt : ∃ m : Nat, m ≤ 4 ∧ L2.atI [D.int r0, D.int 4] (if b = true then 1 else 0) = some (.int (m : Int)) := by
    cases b with
    | true => exact ⟨4, by omega, by rw [if_pos rfl, at1]; rfl⟩
    | false => exact ⟨r0.toNat, by omega, by rw [if_neg Bool.false_ne_true, at0]; rw [Int.toNat_of_nonneg (by omega)]⟩
  obtain ⟨m, hm4, hat⟩ := hcnt
  simp_arith [hat]
  refine WO_if (by exact in62_small (by omega) (by omega)) ?_
  simp_arith
  refine W_forE (fun e0 i e => ∃ l gs a b c, gs.length = i ∧ Gs xs fl gs ∧ Lf (n + 1 + 24 * i) l ∧ e = puts e0 [(0, .io 0 l), (4, .ow (.lst (gs.map Gt.d))), (8, a), (12, b), (13, c)]) ⟨l0, [], _, _, _, rfl, fun k g h => by simp at h, B0, rfl⟩ ?_ ?_
  · rintro i d _ hd ⟨l1, gs, a, b', c, hgl, hgs, B1, rfl⟩
    obtain ⟨hi, rfl⟩ := rng_get hd
    have hi4 : i < 4 := by omega
    simp_arith [fb__law_terrace_4, cp__law_terrace_3]
    refine pick_wp (by assumption) (by omega) (by omega) (by omega) fun r1 l2 r1a r1b B2 => ?_
    have hcnt : ∃ m : Nat, 1 ≤ m ∧ m ≤ 12 ∧ L2.atI [D.int (1 + r1), D.int 12] (if b = true then 1 else 0) = some (.int (m : Int)) := by
      cases b with
      | true => exact ⟨12, by omega, by omega, by rw [if_pos rfl, at1]; rfl⟩
      | false => exact ⟨(1 + r1).toNat, by omega, by omega, by rw [if_neg Bool.false_ne_true, at0]; rw [Int.toNat_of_nonneg (by omega)]⟩
    obtain ⟨m2, hm20, hm21, hat2⟩ := hcnt
    simp_arith [hat2]
    refine WO_if (by exact in62_small (by omega) (by omega)) ?_
    simp_arith
    refine W_compE (fun e0 j ys e => ∃ l, ys.length = j ∧ (∀ d ∈ ys, Has (.str 8) d) ∧ Lf (n + 1 + 24 * i + 1 + j) l ∧ e = puts e0 [(0, .io 0 l)]) ⟨l2, rfl, all_nil, B2, rfl⟩ ?_ ?_
    · rintro j d ys _ hd ⟨l3, hyl, hy, B3, rfl⟩
      obtain ⟨hj, rfl⟩ := rng_get hd
      simp_arith [ce__law_terrace_3]
      refine pick_wp (by assumption) (by omega) (by omega) (by omega) fun r2 l4 r2a r2b B4 => ?_
      simp_arith
      refine WO_atP hoP (by omega) (by omega) ?_
      rintro _ ⟨o, rfl, hoo⟩
      simp_arith
      exact ⟨l4, by simp [hyl], all_app hy (all_cons (Has.mkS hoo) all_nil), B4.mono (by omega), by trivial⟩
    rintro ys _ ⟨l3, hyl, hy, B3, rfl⟩
    rw [rng_len] at hyl B3
    obtain ⟨ri, rfl, hri⟩ := has_strs hy
    rw [List.length_map] at hyl
    simp_arith [List.length_map]
    refine WC_dec (by omega) ?_
    simp_arith [cp__law_terrace_2]
    refine WO_if (by exact in62_small (by omega) (by omega)) ?_
    simp_arith
    refine W_compE (fun e0 j ys e => ∃ l, ys.length ≤ j ∧ (∀ d ∈ ys, FN fl d) ∧ Lf (n + 1 + 24 * i + 13 + j) l ∧ e = puts e0 [(0, .io 0 l)]) ⟨l3, Nat.le_refl _, all_nil, B3.mono (by omega), rfl⟩ ?_ ?_
    · rintro j d ys _ hd ⟨l4, hyl, hy, B4, rfl⟩
      obtain ⟨hj, rfl⟩ := rng_get hd
      simp_arith
      refine pick_wp (by assumption) (by omega) (by omega) (by omega) fun r2 l5 r2a r2b B5 => ?_
      simp_arith
      refine WB_cases' (fun h1 => ?_) (fun h1 => ?_)
      · simp_arith [ce__law_terrace_2]
        refine WO_at (by omega) (by omega) fun j' dd hjj hdd => ?_
        simp_arith
        exact ⟨l5, by rw [List.length_append]; simp; omega, all_app hy (all_cons (hfn j' dd (by omega) hdd) all_nil), B5.mono (by omega), by trivial⟩
      · simp_arith
        exact ⟨l5, by omega, hy, B5.mono (by omega), by trivial⟩
    rintro ys _ ⟨l4, hyl2, hyF, B4, rfl⟩
    rw [rng_len] at hyl2 B4
    have h1 : (cutD (xs.map D.str) none (some 1)).length = 1 := by
      rw [cut_takeI _ (by decide), List.length_take, hm]
      rfl
    have h2 : ∀ d ∈ cutD (xs.map D.str) none (some 1), FN fl d := fun d hd => by
      rw [cut_takeI _ (by decide)] at hd
      obtain ⟨j, hj⟩ := List.mem_iff_getElem?.mp hd
      rw [List.getElem?_take] at hj
      split at hj
      · rename_i hji
        have hji : j < 1 := hji
        exact hfn j d (by omega) hj
      · cases hj
    simp_arith
    refine WC_dec (by omega) ?_
    simp_arith
    refine WO_ifd (by omega) ?_
    have h3 : ∀ d ∈ ys ++ cutD (xs.map D.str) none (some 1), FN fl d := all_app hyF h2
    have h4 : (ys ++ cutD (xs.map D.str) none (some 1)).length ≤ 9 := by rw [List.length_append]; omega
    have h5 : 1 ≤ (ys ++ cutD (xs.map D.str) none (some 1)).length := by rw [List.length_append]; omega
    generalize ys ++ cutD (xs.map D.str) none (some 1) = zs at *
    have h6 : ∀ d ∈ zs, Has (.str 8) d := fun d hd => by
      obtain ⟨x, rfl, hx, _⟩ := h3 d hd
      exact Has.mkS hx
    have hso := sort_ok h6 (by decide) (by decide) (by decide) (by omega)
    have h7 := sortL_len zs
    have h8 : ∀ d ∈ sortL zs, FN fl d := all_sort h3
    simp_arith [hso]
    generalize sortL zs = us at *
    obtain ⟨al, rfl, hal⟩ := has_strs (n := 8) (ns := us) fun d hd => by
      obtain ⟨x, rfl, hx, _⟩ := h8 d hd
      exact Has.mkS hx
    rw [List.length_map] at h7
    have h9 : ∀ x ∈ al, ∃ f ∈ fl, f.nm = x := fun x hx => by
      obtain ⟨y, e, _, h⟩ := h8 (.str x) (List.mem_map.mpr ⟨x, hx, rfl⟩)
      cases e
      exact h
    simp_arith [cp__law_terrace_1]
    refine W_compE (fun e0 j ys e => ∃ zs : List Str, ys = zs.map D.str ∧ zs.length ≤ j ∧ (0 < j → 1 ≤ zs.length) ∧ (∀ x ∈ zs, x ∈ al) ∧ e = e0) ⟨[], rfl, Nat.le_refl _, fun h => by omega, fun _ h => by simp at h, rfl⟩ ?_ ?_
    · rintro j d ys _ hd ⟨zs', rfl, hz1, hz2, hz3, rfl⟩
      obtain ⟨x, hx', rfl⟩ := enum_get hd
      obtain ⟨y, hy', hym, rfl⟩ := at_map hx'
      have hcut : cutD (al.map D.str) none (some (j : Int)) = (al.take j).map D.str := by rw [cut_map, cut_take]
      simp_arith [hcut, notIn_strs]
      by_cases hin : y ∈ al.take j
      · simp_arith [hin]
        refine ⟨zs', rfl, by omega, fun _ => ?_, hz3, by trivial⟩
        have : 0 < j := by
          cases j with
          | zero => simp at hin
          | succ j => omega
        exact hz2 this
      · simp_arith [hin, ce__law_terrace_1]
        exact ⟨zs' ++ [y], by rw [List.map_append]; rfl, by rw [List.length_append, List.length_singleton]; omega, fun _ => by rw [List.length_append, List.length_singleton]; omega, fun x hx => by
          rcases List.mem_append.mp hx with hx | hx
          · exact hz3 x hx
          · rw [List.mem_singleton.mp hx]; exact hym, by trivial⟩
    rintro _ _ ⟨al2, rfl, ha1, ha2, ha3, rfl⟩
    rw [enum_len, List.length_map] at ha1 ha2
    simp_arith [List.length_map]
    refine WC_dec (by omega) ?_
    obtain ⟨gx, hgx, hgm⟩ := at_of (l := xs) (i := 15 - i) (by omega)
    have hgat : L2.atI (xs.map D.str) (15 - (0 + (i : Int))) = some (.str gx) := by
      rw [show (15 - (0 + (i : Int))) = ((15 - i : Nat) : Int) by omega]
      exact atI_map D.str hgx
    simp_arith [hgat]
    refine pick_wp (by assumption) (by omega) (by omega) (by omega) fun r3 l5 r3a r3b B5 => ?_
    simp_arith
    refine pick_wp (by assumption) (by omega) (by omega) (by omega) fun r4 l6 r4a r4b B6 => ?_
    simp_arith
    refine WO_atP (P := Has (.int 1 999)) ?_ (by omega) (by simp; omega) ?_
    · iterate 2 refine all_cons (Has.mkI (by omega) (by omega)) ?_
      exact all_nil
    rintro _ ⟨mo, rfl, mo0, mo1⟩
    simp_arith [List.length_map]
    refine WO_ifd (by omega) ?_
    simp_arith
    have em : gs.map Gt.d ++ [D.tup [.str gx, .int mo, .tup (ri.map D.str), .tup (al2.map D.str)]] = (gs ++ [(⟨gx, mo, ri, al2⟩ : Gt)]).map Gt.d := by
      rw [List.map_append]
      rfl
    rw [em]
    refine ⟨l6, gs ++ [⟨gx, mo, ri, al2⟩], _, _, _, by simp [hgl], fun j g hj => ?_, B6.mono (by omega), rfl⟩
    rcases snoc_get hj with ⟨hj1, hj2⟩ | ⟨hj1, rfl⟩
    · exact hgs j g hj2
    · rw [hj1, hgl]
      exact ⟨⟨(hxs gx hgm).1, mo0, mo1, by show 1 ≤ ri.length; omega, by show ri.length ≤ 12; omega, hri, ha2 (by omega), by show al2.length ≤ 9; omega, fun x hx => hal x (ha3 x hx), fun x hx => h9 x (ha3 x hx)⟩, hgx⟩
  · rintro _ ⟨l1, gs, a, b', c, hgl, hgs, B1, rfl⟩
    rw [rng_len] at hgl B1
    simp_arith
    exact q gs _ l1 (by omega) hgs (B1.mono (by omega)) rfl rfl rfl rfl rfl (fun _ _ _ _ => trivial)
end L_k16
namespace L_k16
open PySem PySem.Spec PyProof.Rows L2 PD
local macro_rules | `(tactic| simp_arith [$xs,*]) => `(tactic| try simp only [↓W_rt, ↓W_bd, ↓W_eC, ↓W_eV, ↓W_cN, ↓W_cA, ↓W_eP, ↓W_eM, ↓W_ckT, ↓W_eU, ↓W_eTup, ↓W_eLst, ↓W_eDk, ↓W_eDt, ↓W_mB, ↓W_mT, ↓W_mNot, ↓W_mAnd, ↓W_mOr, ↓W_eNot, ↓W_eAnd, ↓W_eOr, ↓W_eIf, ↓W_eTmp, ↓W_mTmp, ↓W_oN, ↓W_oS, ↓W_eSl, ↓W_eChain, ↓W_sNil, ↓W_sPass, ↓W_sBrk, ↓W_sCnt, ↓W_sRetN, ↓W_sSeq, ↓W_sExp, ↓W_sRet, ↓W_sIf, ↓W_sAsg, ↓W_gsN, ↓W_gsC, ↓W_gT, ↓W_gTl, ↓W_gS, ↓W_hb_im, ↓W_hb_fr, ↓W_hb_bo, ↓W_sPF, ↓W_sPF3, ↓W_gN_im, ↓W_gN_fr, ↓W_gN_bo, ↓W_frz_im, ↓W_frz_fr, ↓W_frz_bo, ↓W_frzs_nil, ↓W_frzs_cons, ↓W_frzA_nil, ↓W_frzA_t, ↓W_frzA_im, ↓W_frzA_bo, ↓W_callE, ↓W_eCallN, ↓W_eCallF, ↓WO_runF, ↓W_mR1, ↓W_mR2, ↓W_mLst, ↓W_mTup, ↓W_mEnum, ↓W_mEnumT, ↓W_mStr, ↓W_mZip, ↓W_sFor, ↓W_sWhl, ↓W_eComp, ↓W_eTupB, ↓W_sAug, ↓W_mZipM, ↓W_gT_Fld, ↓W_gT_Gt, ↓W_gT_Lt, ↓W_gT_bD, ↓W_gT_Dn, ↓W_gT_Rw, ↓Fld_i0, ↓Fld_i1, ↓Fld_i2, ↓Fld_i3, ↓Fld_i4, ↓Gt_i0, ↓Gt_i1, ↓Gt_i2, ↓Gt_i3, ↓Lt_i0, ↓Lt_i1, ↓Lt_i2, ↓bD_i0, ↓bD_i1, ↓Dn_i0, ↓Dn_i1, ↓Dn_i2, ↓Dn_i3, ↓Rw_i0, ↓Rw_i1, ↓Rw_i2, ↓Rw_i3, ↓Rw_i4, ↓Rw_i5, ↓Rw_i6, ↓Ter_i0, ↓Ter_i1, WO_map, WO_some, WO_none, WB_true, WB_false, WC_true, goes_nx, goes_ct, goes_bk, goes_rt, cut_nx, cut_bk, cut_ct, cut_rt, puts_nil, puts_cons, List.getElem?_cons_zero, List.getElem?_cons_succ, setO, frzO_eq, Option.map_some, putO, putC, List.set_cons_zero, List.set_cons_succ, mutAtD, PD.cnts, PD.cnt, Vl.hold, tyT, beq_self_eq_true, small_eq, lessL_eq, decide_true, decide_false, List.length_cons, List.length_nil, mkE, List.replicate_succ, List.replicate_zero, List.cons_append, List.nil_append, outE, retV, ioAll, ioIx, brIx, mutAt, updE, disj, nmOut, Vl.nm, D.nm, D.nmC, nms, Sl.mut, Sl.frz, D.atom, List.map_cons, List.map_nil, wipeE, unwipe, calm_em, calm_im, calm_none, List.all_cons, List.all_nil, Bool.and_true, Bool.true_and, Bool.and_self, Bool.or_true, Bool.or_self, Bool.true_or, Bool.false_or, Bool.or_false, Bool.not_true, Bool.not_false, Bool.and_false, Bool.false_and, List.isEmpty_nil, List.isEmpty_cons, List.nodup_cons, List.nodup_nil, List.not_mem_nil, not_false_eq_true, and_self, List.contains_nil, if_true, if_false, Bool.false_eq_true, ite_true, ite_false, rg1, rg2, seqL, seqT, zipO, addD, subD, mulD, divD, modD, powD, negD, ltD, leD, gtD, geD, lenD, absD, minD, maxD, PD.intD, ixD, isnD, appendD, reverseD, extendD, slD, setD, listD, tupleD, tupleBD, truD, at0, at1, at2, at3, at4, at5, at6, at7, sd0, sd1, sd2, sd3, ixN, Int.cast_ofNat_Int, Int.reduceEq, Int.reduceNe, Int.reduceLT, Int.reduceLE, Int.reduceNeg, Int.reduceAdd, Int.reduceSub, Int.reduceMul, Int.reducePow, Nat.reducePow, Int.reduceToNat, Int.reduceAbs, ne_eq, not_true_eq_false, Nat.zero_add, Nat.add_zero, Nat.reduceAdd, Nat.reduceSub, Nat.reduceLT, Nat.reduceLeDiff, Nat.reduceEqDiff, Nat.reduceMul, i63_0, i63_1, zipMO_lt, zipMO_tl, zipMO_ll, List.flatten_cons, List.flatten_nil, Nat.lt_irrefl, reduceCtorEq, Nat.zero_lt_succ, Nat.reduceSubDiff, Nat.sub_zero, Nat.sub_self, Bool.not_eq_true, Bool.not_eq_false, sig__law_pick, sig__law_mix, sig__law_some_names, $xs,*])
local macro_rules | `(tactic| simp_arith) => `(tactic| try simp only [↓W_rt, ↓W_bd, ↓W_eC, ↓W_eV, ↓W_cN, ↓W_cA, ↓W_eP, ↓W_eM, ↓W_ckT, ↓W_eU, ↓W_eTup, ↓W_eLst, ↓W_eDk, ↓W_eDt, ↓W_mB, ↓W_mT, ↓W_mNot, ↓W_mAnd, ↓W_mOr, ↓W_eNot, ↓W_eAnd, ↓W_eOr, ↓W_eIf, ↓W_eTmp, ↓W_mTmp, ↓W_oN, ↓W_oS, ↓W_eSl, ↓W_eChain, ↓W_sNil, ↓W_sPass, ↓W_sBrk, ↓W_sCnt, ↓W_sRetN, ↓W_sSeq, ↓W_sExp, ↓W_sRet, ↓W_sIf, ↓W_sAsg, ↓W_gsN, ↓W_gsC, ↓W_gT, ↓W_gTl, ↓W_gS, ↓W_hb_im, ↓W_hb_fr, ↓W_hb_bo, ↓W_sPF, ↓W_sPF3, ↓W_gN_im, ↓W_gN_fr, ↓W_gN_bo, ↓W_frz_im, ↓W_frz_fr, ↓W_frz_bo, ↓W_frzs_nil, ↓W_frzs_cons, ↓W_frzA_nil, ↓W_frzA_t, ↓W_frzA_im, ↓W_frzA_bo, ↓W_callE, ↓W_eCallN, ↓W_eCallF, ↓WO_runF, ↓W_mR1, ↓W_mR2, ↓W_mLst, ↓W_mTup, ↓W_mEnum, ↓W_mEnumT, ↓W_mStr, ↓W_mZip, ↓W_sFor, ↓W_sWhl, ↓W_eComp, ↓W_eTupB, ↓W_sAug, ↓W_mZipM, ↓W_gT_Fld, ↓W_gT_Gt, ↓W_gT_Lt, ↓W_gT_bD, ↓W_gT_Dn, ↓W_gT_Rw, ↓Fld_i0, ↓Fld_i1, ↓Fld_i2, ↓Fld_i3, ↓Fld_i4, ↓Gt_i0, ↓Gt_i1, ↓Gt_i2, ↓Gt_i3, ↓Lt_i0, ↓Lt_i1, ↓Lt_i2, ↓bD_i0, ↓bD_i1, ↓Dn_i0, ↓Dn_i1, ↓Dn_i2, ↓Dn_i3, ↓Rw_i0, ↓Rw_i1, ↓Rw_i2, ↓Rw_i3, ↓Rw_i4, ↓Rw_i5, ↓Rw_i6, ↓Ter_i0, ↓Ter_i1, WO_map, WO_some, WO_none, WB_true, WB_false, WC_true, goes_nx, goes_ct, goes_bk, goes_rt, cut_nx, cut_bk, cut_ct, cut_rt, puts_nil, puts_cons, List.getElem?_cons_zero, List.getElem?_cons_succ, setO, frzO_eq, Option.map_some, putO, putC, List.set_cons_zero, List.set_cons_succ, mutAtD, PD.cnts, PD.cnt, Vl.hold, tyT, beq_self_eq_true, small_eq, lessL_eq, decide_true, decide_false, List.length_cons, List.length_nil, mkE, List.replicate_succ, List.replicate_zero, List.cons_append, List.nil_append, outE, retV, ioAll, ioIx, brIx, mutAt, updE, disj, nmOut, Vl.nm, D.nm, D.nmC, nms, Sl.mut, Sl.frz, D.atom, List.map_cons, List.map_nil, wipeE, unwipe, calm_em, calm_im, calm_none, List.all_cons, List.all_nil, Bool.and_true, Bool.true_and, Bool.and_self, Bool.or_true, Bool.or_self, Bool.true_or, Bool.false_or, Bool.or_false, Bool.not_true, Bool.not_false, Bool.and_false, Bool.false_and, List.isEmpty_nil, List.isEmpty_cons, List.nodup_cons, List.nodup_nil, List.not_mem_nil, not_false_eq_true, and_self, List.contains_nil, if_true, if_false, Bool.false_eq_true, ite_true, ite_false, rg1, rg2, seqL, seqT, zipO, addD, subD, mulD, divD, modD, powD, negD, ltD, leD, gtD, geD, lenD, absD, minD, maxD, PD.intD, ixD, isnD, appendD, reverseD, extendD, slD, setD, listD, tupleD, tupleBD, truD, at0, at1, at2, at3, at4, at5, at6, at7, sd0, sd1, sd2, sd3, ixN, Int.cast_ofNat_Int, Int.reduceEq, Int.reduceNe, Int.reduceLT, Int.reduceLE, Int.reduceNeg, Int.reduceAdd, Int.reduceSub, Int.reduceMul, Int.reducePow, Nat.reducePow, Int.reduceToNat, Int.reduceAbs, ne_eq, not_true_eq_false, Nat.zero_add, Nat.add_zero, Nat.reduceAdd, Nat.reduceSub, Nat.reduceLT, Nat.reduceLeDiff, Nat.reduceEqDiff, Nat.reduceMul, i63_0, i63_1, zipMO_lt, zipMO_tl, zipMO_ll, List.flatten_cons, List.flatten_nil, Nat.lt_irrefl, reduceCtorEq, Nat.zero_lt_succ, Nat.reduceSubDiff, Nat.sub_zero, Nat.sub_self, Bool.not_eq_true, Bool.not_eq_false, sig__law_pick, sig__law_mix, sig__law_some_names])
/-- the gates of a terrace -/
structure GsOk (fl : List Fld) (gs : List Gt) : Prop where
  len : gs.length ≤ 4
  ok : ∀ g ∈ gs, g.ok fl
  nd : (gs.map Gt.nm).Nodup
theorem GsOk.perm {fl fl' : List Fld} {gs gs' : List Gt} (p : gs'.Perm gs) (pf : fl'.Perm fl) (h : GsOk fl gs) : GsOk fl' gs' :=
  ⟨by rw [p.length_eq]; exact h.len, fun g hg => by
    have := h.ok g (p.mem_iff.mp hg)
    exact ⟨this.nm, this.m0, this.m1, this.r0, this.r1, this.r2, this.a0, this.a1, this.a2, fun x hx => by
      obtain ⟨f, hf, e⟩ := this.a3 x hx
      exact ⟨f, pf.mem_iff.mpr hf, e⟩⟩, (p.map _).nodup_iff.mpr h.nd⟩
theorem Gs.gok {xs : List Str} {fl : List Fld} {gs : List Gt} (h : Gs xs fl gs) (hl : gs.length ≤ 4) (hx : xs.length = 16) (nd : xs.Nodup) : GsOk fl gs := by
  refine ⟨hl, fun g hg => ?_, ?_⟩
  · obtain ⟨j, hj⟩ := List.mem_iff_getElem?.mp hg
    exact (h j g hj).1
  · rw [List.Nodup, List.pairwise_iff_getElem]
    intro i j hi hj hij e
    rw [List.length_map] at hi hj
    obtain ⟨g, hg, _⟩ := at_of (l := gs) (i := i) hi
    obtain ⟨k, hk, _⟩ := at_of (l := gs) (i := j) hj
    have h1 := (h i g hg).2
    have h2 := (h j k hk).2
    have e1 : (gs.map Gt.nm)[i]? = some g.nm := by rw [List.getElem?_map, hg]; rfl
    have e2 : (gs.map Gt.nm)[j]? = some k.nm := by rw [List.getElem?_map, hk]; rfl
    rw [List.getElem?_eq_getElem (by rw [List.length_map]; exact hi)] at e1
    rw [List.getElem?_eq_getElem (by rw [List.length_map]; exact hj)] at e2
    rw [Option.some.inj e1, Option.some.inj e2] at e
    rw [e, ← h2] at h1
    have := (List.getElem?_inj (by omega) nd).mp h1
    omega
theorem terrace_wp {n : Nat} {l : D} {b : Bool} {K : Vl × List D → Prop} (h : Lf n l) (hn : n < 2 ^ 18) (q : ∀ (fl : List Fld) (gs : List Gt) (l' : D), 1 ≤ fl.length → fl.length ≤ 8 → (b = true → fl.length = 8) → TerrOk fl → GsOk fl gs → Lf (n + 250) l' → K (.im (terD fl gs), [l', .bl b])) : @WO _ (F__law_terrace.sem [l, .bl b]) ⟨K⟩ := by
  rw [sem__law_terrace]
  simp_arith [b__law_terrace]
  refine names_wp h (by omega) fun ns l1 hnl hns hnd B1 => ?_
  obtain ⟨xs, rfl, hxs⟩ := strs_of hns
  have hx : xs.length = 16 := by rwa [List.length_map] at hnl
  have hnd2 : xs.Nodup := List.Pairwise.of_map D.str (fun a b h z => h (by rw [z])) hnd
  simp_arith
  refine pick_wp (by assumption) (by omega) (by omega) (by omega) fun r1 l2 r1a r1b B2 => ?_
  have hcnt : ∃ m : Nat, 1 ≤ m ∧ m ≤ 8 ∧ (b = true → m = 8) ∧ L2.atI [D.int (1 + r1), D.int 8] (if b = true then 1 else 0) = some (.int (m : Int)) := by
    cases b with
    | true => exact ⟨8, by omega, by omega, fun _ => rfl, by rw [if_pos rfl, at1]; rfl⟩
    | false => exact ⟨(1 + r1).toNat, by omega, by omega, (fun h => nomatch h), by rw [if_neg Bool.false_ne_true, at0]; rw [Int.toNat_of_nonneg (by omega)]⟩
  obtain ⟨m, hm0, hm8, hmb, hat⟩ := hcnt
  simp_arith [hat]
  refine pick_wp (by assumption) (by omega) (by omega) (by omega) fun r2 l3 r2a r2b B3 => ?_
  have hcut : cutD (xs.map D.str) (some 6) (some 12) = ((xs.drop 6).take 6).map D.str := by
    rw [cut_map, show (some (6 : Int)) = some ((6 : Nat) : Int) from rfl, show (some (12 : Int)) = some ((12 : Nat) : Int) from rfl, cut_nat]
  simp_arith [hcut]
  refine fields_run B3 (by omega) hx hxs (by omega) (by omega) hm8 fun fl l4 a8 a9 a10 a11 hfl hcr B4 => ?_
  simp_arith
  refine gates_run B4 (by omega) hx hxs hfl hm8 hm0 hcr fun gs e l5 hgl hgs B5 e0 e1 e3 e4 el _ => ?_
  have tk := hcr.terr hnd (by rw [hfl, hnl]; omega)
  have gk := hgs.gok hgl hx hnd2
  have hso1 := sort_ok (flds_has tk.ok) (by decide) (by decide) (by decide) (by rw [List.length_map]; omega)
  have hso2 := sort_ok (gts_has gk.ok) (by decide) (by decide) (by decide) (by rw [List.length_map]; omega)
  obtain ⟨fl', pf, ef⟩ := sortL_map Fld.d fl
  obtain ⟨gs', pg, eg⟩ := sortL_map Gt.d gs
  match e, el, e0, e1, e3, e4 with
  | [x0, x1, x2, x3, x4, x5, x6, x7, x8, x9, x10, x11, x12, x13, x14, x15, x16], _, e0, e1, e3, e4 =>
    have k0 : x0 = .io 0 l5 := Option.some.inj e0
    have k1 : x1 = .im (.bl b) := Option.some.inj e1
    have k3 : x3 = .ow (.lst (fl.map Fld.d)) := Option.some.inj e3
    have k4 : x4 = .ow (.lst (gs.map Gt.d)) := Option.some.inj e4
    subst k0 k1 k3 k4
    simp_arith [hso1, hso2, ef, eg]
    exact q fl' gs' _ (by rw [pf.length_eq]; omega) (by rw [pf.length_eq]; omega) (fun hb => by rw [pf.length_eq, hfl]; exact hmb hb) (tk.perm pf) (gk.perm pg pf) (B5.mono (by omega))
end L_k16
namespace L_k16
open PySem PySem.Spec PyProof.Rows L2 PD
local macro_rules | `(tactic| simp_arith [$xs,*]) => `(tactic| try simp only [↓W_rt, ↓W_bd, ↓W_eC, ↓W_eV, ↓W_cN, ↓W_cA, ↓W_eP, ↓W_eM, ↓W_ckT, ↓W_eU, ↓W_eTup, ↓W_eLst, ↓W_eDk, ↓W_eDt, ↓W_mB, ↓W_mT, ↓W_mNot, ↓W_mAnd, ↓W_mOr, ↓W_eNot, ↓W_eAnd, ↓W_eOr, ↓W_eIf, ↓W_eTmp, ↓W_mTmp, ↓W_oN, ↓W_oS, ↓W_eSl, ↓W_eChain, ↓W_sNil, ↓W_sPass, ↓W_sBrk, ↓W_sCnt, ↓W_sRetN, ↓W_sSeq, ↓W_sExp, ↓W_sRet, ↓W_sIf, ↓W_sAsg, ↓W_gsN, ↓W_gsC, ↓W_gT, ↓W_gTl, ↓W_gS, ↓W_hb_im, ↓W_hb_fr, ↓W_hb_bo, ↓W_sPF, ↓W_sPF3, ↓W_gN_im, ↓W_gN_fr, ↓W_gN_bo, ↓W_frz_im, ↓W_frz_fr, ↓W_frz_bo, ↓W_frzs_nil, ↓W_frzs_cons, ↓W_frzA_nil, ↓W_frzA_t, ↓W_frzA_im, ↓W_frzA_bo, ↓W_callE, ↓W_eCallN, ↓W_eCallF, ↓WO_runF, ↓W_mR1, ↓W_mR2, ↓W_mLst, ↓W_mTup, ↓W_mEnum, ↓W_mEnumT, ↓W_mStr, ↓W_mZip, ↓W_sFor, ↓W_sWhl, ↓W_eComp, ↓W_eTupB, ↓W_sAug, ↓W_mZipM, ↓W_gT_Fld, ↓W_gT_Gt, ↓W_gT_Lt, ↓W_gT_bD, ↓W_gT_Dn, ↓W_gT_Rw, ↓Fld_i0, ↓Fld_i1, ↓Fld_i2, ↓Fld_i3, ↓Fld_i4, ↓Gt_i0, ↓Gt_i1, ↓Gt_i2, ↓Gt_i3, ↓Lt_i0, ↓Lt_i1, ↓Lt_i2, ↓bD_i0, ↓bD_i1, ↓Dn_i0, ↓Dn_i1, ↓Dn_i2, ↓Dn_i3, ↓Rw_i0, ↓Rw_i1, ↓Rw_i2, ↓Rw_i3, ↓Rw_i4, ↓Rw_i5, ↓Rw_i6, ↓Ter_i0, ↓Ter_i1, WO_map, WO_some, WO_none, WB_true, WB_false, WC_true, goes_nx, goes_ct, goes_bk, goes_rt, cut_nx, cut_bk, cut_ct, cut_rt, puts_nil, puts_cons, List.getElem?_cons_zero, List.getElem?_cons_succ, setO, frzO_eq, Option.map_some, putO, putC, List.set_cons_zero, List.set_cons_succ, mutAtD, PD.cnts, PD.cnt, Vl.hold, tyT, beq_self_eq_true, small_eq, lessL_eq, decide_true, decide_false, List.length_cons, List.length_nil, mkE, List.replicate_succ, List.replicate_zero, List.cons_append, List.nil_append, outE, retV, ioAll, ioIx, brIx, mutAt, updE, disj, nmOut, Vl.nm, D.nm, D.nmC, nms, Sl.mut, Sl.frz, D.atom, List.map_cons, List.map_nil, wipeE, unwipe, calm_em, calm_im, calm_none, List.all_cons, List.all_nil, Bool.and_true, Bool.true_and, Bool.and_self, Bool.or_true, Bool.or_self, Bool.true_or, Bool.false_or, Bool.or_false, Bool.not_true, Bool.not_false, Bool.and_false, Bool.false_and, List.isEmpty_nil, List.isEmpty_cons, List.nodup_cons, List.nodup_nil, List.not_mem_nil, not_false_eq_true, and_self, List.contains_nil, if_true, if_false, Bool.false_eq_true, ite_true, ite_false, rg1, rg2, seqL, seqT, zipO, addD, subD, mulD, divD, modD, powD, negD, ltD, leD, gtD, geD, lenD, absD, minD, maxD, PD.intD, ixD, isnD, appendD, reverseD, extendD, slD, setD, listD, tupleD, tupleBD, truD, at0, at1, at2, at3, at4, at5, at6, at7, sd0, sd1, sd2, sd3, ixN, Int.cast_ofNat_Int, Int.reduceEq, Int.reduceNe, Int.reduceLT, Int.reduceLE, Int.reduceNeg, Int.reduceAdd, Int.reduceSub, Int.reduceMul, Int.reducePow, Nat.reducePow, Int.reduceToNat, Int.reduceAbs, ne_eq, not_true_eq_false, Nat.zero_add, Nat.add_zero, Nat.reduceAdd, Nat.reduceSub, Nat.reduceLT, Nat.reduceLeDiff, Nat.reduceEqDiff, Nat.reduceMul, i63_0, i63_1, zipMO_lt, zipMO_tl, zipMO_ll, List.flatten_cons, List.flatten_nil, Nat.lt_irrefl, reduceCtorEq, Nat.zero_lt_succ, Nat.reduceSubDiff, Nat.sub_zero, Nat.sub_self, Bool.not_eq_true, Bool.not_eq_false, b__law_left, wc_below_of_1, wl_below_of_1, ce_below_of_2, cp_below_of_2, b_below_of, ce_way_down_1, cp_way_down_1, ce_way_down_2, cp_way_down_2, b_way_down, ce_lets_into_1, cp_lets_into_1, b_lets_into, b_bank_of, b_field_day, ce_day_of_1, cp_day_of_1, fl_day_of_2, ce_day_of_3, cp_day_of_3, ce_day_of_4, cp_day_of_4, b_day_of, wc__law_same_1, wl__law_same_1, b__law_same, b__law_mix, b__law_pick, fl__law_some_names_1, ce__law_some_names_2, cp__law_some_names_2, ce__law_some_names_3, cp__law_some_names_3, ce__law_some_names_4, cp__law_some_names_4, b__law_some_names, ce__law_terrace_1, cp__law_terrace_1, ce__law_terrace_2, cp__law_terrace_2, ce__law_terrace_3, cp__law_terrace_3, fl__law_terrace_4, fl__law_terrace_5, b__law_terrace, ce_stand_of_1, cp_stand_of_1, b_stand_of, ce__law_field_row_1, cp__law_field_row_1, ce__law_field_row_2, cp__law_field_row_2, ce__law_field_row_3, cp__law_field_row_3, ce__law_field_row_4, cp__law_field_row_4, b__law_field_row, ce__law_day_1, cp__law_day_1, b__law_day, ce__law_right_1, cp__law_right_1, ce__law_right_2, cp__law_right_2, ce__law_right_3, cp__law_right_3, fl__law_right_4, b__law_right, fl_law_1, b_law, sig__law_left, sig_below_of, sig_way_down, sig_lets_into, sig_bank_of, sig_field_day, sig_day_of, sig__law_same, sig__law_mix, sig__law_pick, sig__law_some_names, sig__law_terrace, sig_stand_of, sig__law_day, sig__law_right, sig_law, $xs,*])
local macro_rules | `(tactic| simp_arith) => `(tactic| try simp only [↓W_rt, ↓W_bd, ↓W_eC, ↓W_eV, ↓W_cN, ↓W_cA, ↓W_eP, ↓W_eM, ↓W_ckT, ↓W_eU, ↓W_eTup, ↓W_eLst, ↓W_eDk, ↓W_eDt, ↓W_mB, ↓W_mT, ↓W_mNot, ↓W_mAnd, ↓W_mOr, ↓W_eNot, ↓W_eAnd, ↓W_eOr, ↓W_eIf, ↓W_eTmp, ↓W_mTmp, ↓W_oN, ↓W_oS, ↓W_eSl, ↓W_eChain, ↓W_sNil, ↓W_sPass, ↓W_sBrk, ↓W_sCnt, ↓W_sRetN, ↓W_sSeq, ↓W_sExp, ↓W_sRet, ↓W_sIf, ↓W_sAsg, ↓W_gsN, ↓W_gsC, ↓W_gT, ↓W_gTl, ↓W_gS, ↓W_hb_im, ↓W_hb_fr, ↓W_hb_bo, ↓W_sPF, ↓W_sPF3, ↓W_gN_im, ↓W_gN_fr, ↓W_gN_bo, ↓W_frz_im, ↓W_frz_fr, ↓W_frz_bo, ↓W_frzs_nil, ↓W_frzs_cons, ↓W_frzA_nil, ↓W_frzA_t, ↓W_frzA_im, ↓W_frzA_bo, ↓W_callE, ↓W_eCallN, ↓W_eCallF, ↓WO_runF, ↓W_mR1, ↓W_mR2, ↓W_mLst, ↓W_mTup, ↓W_mEnum, ↓W_mEnumT, ↓W_mStr, ↓W_mZip, ↓W_sFor, ↓W_sWhl, ↓W_eComp, ↓W_eTupB, ↓W_sAug, ↓W_mZipM, ↓W_gT_Fld, ↓W_gT_Gt, ↓W_gT_Lt, ↓W_gT_bD, ↓W_gT_Dn, ↓W_gT_Rw, ↓Fld_i0, ↓Fld_i1, ↓Fld_i2, ↓Fld_i3, ↓Fld_i4, ↓Gt_i0, ↓Gt_i1, ↓Gt_i2, ↓Gt_i3, ↓Lt_i0, ↓Lt_i1, ↓Lt_i2, ↓bD_i0, ↓bD_i1, ↓Dn_i0, ↓Dn_i1, ↓Dn_i2, ↓Dn_i3, ↓Rw_i0, ↓Rw_i1, ↓Rw_i2, ↓Rw_i3, ↓Rw_i4, ↓Rw_i5, ↓Rw_i6, ↓Ter_i0, ↓Ter_i1, WO_map, WO_some, WO_none, WB_true, WB_false, WC_true, goes_nx, goes_ct, goes_bk, goes_rt, cut_nx, cut_bk, cut_ct, cut_rt, puts_nil, puts_cons, List.getElem?_cons_zero, List.getElem?_cons_succ, setO, frzO_eq, Option.map_some, putO, putC, List.set_cons_zero, List.set_cons_succ, mutAtD, PD.cnts, PD.cnt, Vl.hold, tyT, beq_self_eq_true, small_eq, lessL_eq, decide_true, decide_false, List.length_cons, List.length_nil, mkE, List.replicate_succ, List.replicate_zero, List.cons_append, List.nil_append, outE, retV, ioAll, ioIx, brIx, mutAt, updE, disj, nmOut, Vl.nm, D.nm, D.nmC, nms, Sl.mut, Sl.frz, D.atom, List.map_cons, List.map_nil, wipeE, unwipe, calm_em, calm_im, calm_none, List.all_cons, List.all_nil, Bool.and_true, Bool.true_and, Bool.and_self, Bool.or_true, Bool.or_self, Bool.true_or, Bool.false_or, Bool.or_false, Bool.not_true, Bool.not_false, Bool.and_false, Bool.false_and, List.isEmpty_nil, List.isEmpty_cons, List.nodup_cons, List.nodup_nil, List.not_mem_nil, not_false_eq_true, and_self, List.contains_nil, if_true, if_false, Bool.false_eq_true, ite_true, ite_false, rg1, rg2, seqL, seqT, zipO, addD, subD, mulD, divD, modD, powD, negD, ltD, leD, gtD, geD, lenD, absD, minD, maxD, PD.intD, ixD, isnD, appendD, reverseD, extendD, slD, setD, listD, tupleD, tupleBD, truD, at0, at1, at2, at3, at4, at5, at6, at7, sd0, sd1, sd2, sd3, ixN, Int.cast_ofNat_Int, Int.reduceEq, Int.reduceNe, Int.reduceLT, Int.reduceLE, Int.reduceNeg, Int.reduceAdd, Int.reduceSub, Int.reduceMul, Int.reducePow, Nat.reducePow, Int.reduceToNat, Int.reduceAbs, ne_eq, not_true_eq_false, Nat.zero_add, Nat.add_zero, Nat.reduceAdd, Nat.reduceSub, Nat.reduceLT, Nat.reduceLeDiff, Nat.reduceEqDiff, Nat.reduceMul, i63_0, i63_1, zipMO_lt, zipMO_tl, zipMO_ll, List.flatten_cons, List.flatten_nil, Nat.lt_irrefl, reduceCtorEq, Nat.zero_lt_succ, Nat.reduceSubDiff, Nat.sub_zero, Nat.sub_self, Bool.not_eq_true, Bool.not_eq_false, b__law_left, wc_below_of_1, wl_below_of_1, ce_below_of_2, cp_below_of_2, b_below_of, ce_way_down_1, cp_way_down_1, ce_way_down_2, cp_way_down_2, b_way_down, ce_lets_into_1, cp_lets_into_1, b_lets_into, b_bank_of, b_field_day, ce_day_of_1, cp_day_of_1, fl_day_of_2, ce_day_of_3, cp_day_of_3, ce_day_of_4, cp_day_of_4, b_day_of, wc__law_same_1, wl__law_same_1, b__law_same, b__law_mix, b__law_pick, fl__law_some_names_1, ce__law_some_names_2, cp__law_some_names_2, ce__law_some_names_3, cp__law_some_names_3, ce__law_some_names_4, cp__law_some_names_4, b__law_some_names, ce__law_terrace_1, cp__law_terrace_1, ce__law_terrace_2, cp__law_terrace_2, ce__law_terrace_3, cp__law_terrace_3, fl__law_terrace_4, fl__law_terrace_5, b__law_terrace, ce_stand_of_1, cp_stand_of_1, b_stand_of, ce__law_field_row_1, cp__law_field_row_1, ce__law_field_row_2, cp__law_field_row_2, ce__law_field_row_3, cp__law_field_row_3, ce__law_field_row_4, cp__law_field_row_4, b__law_field_row, ce__law_day_1, cp__law_day_1, b__law_day, ce__law_right_1, cp__law_right_1, ce__law_right_2, cp__law_right_2, ce__law_right_3, cp__law_right_3, fl__law_right_4, b__law_right, fl_law_1, b_law, sig__law_left, sig_below_of, sig_way_down, sig_lets_into, sig_bank_of, sig_field_day, sig_day_of, sig__law_same, sig__law_mix, sig__law_pick, sig__law_some_names, sig__law_terrace, sig_stand_of, sig__law_day, sig__law_right, sig_law])
theorem lets_wp {n : Dn} {x : Str} {K : Vl × List D → Prop} (h : n.ok) (q : K (.im (.int (n.into x)), [n.d, .str x])) : @WO _ (F_lets_into.sem [n.d, .str x]) ⟨K⟩ := by
  rw [sem_lets_into]
  simp_arith
  refine W_comp_fltA Lt.d (fun l => decide (l.f = x)) (fun l => .int l.m) (fun l hl => ?_) ?_
  · simp_arith [eqD_str]
    refine WB_cases' (fun h1 => ?_) (fun h1 => ?_)
    · simp_arith
      simp [h1, wipeE]
    · simp_arith
      simp [h1, wipeE]
  have h1 : ((n.ls.filter fun l => decide (l.f = x)).map fun l => D.int l.m).length ≤ 40 := by
    rw [List.length_map]
    have := List.length_filter_le (fun l => decide (l.f = x)) n.ls
    have := h.ll
    omega
  have h2 := sumD_map Lt.m (n.ls.filter fun l => decide (l.f = x))
  simp_arith
  refine WC_dec (by omega) ?_
  simp_arith [h2]
  exact q
theorem bank_wp {n : Dn} {f : Fld} {K : Vl × List D → Prop} (h : n.ok) (q : K (.im (.int (n.lvl f)), [f.d, n.d])) : @WO _ (F_bank_of.sem [f.d, n.d]) ⟨K⟩ := by
  have h1 := dictB_bs h.b0
  have h2 : getKD [.dk (n.bs.map fun b => (.inr b.1, .int b.2)), .str f.nm, .int f.dy] = some (.im (.int (n.lvl f))) := by
    show some (Vl.im ((getK (n.bs.map fun b => ((.inr b.1 : Key), D.int b.2)) (.inr f.nm)).getD (.int f.dy))) = _
    rw [getK_bs]
    unfold Dn.lvl
    cases lkB n.bs f.nm <;> rfl
  rw [sem_bank_of]
  simp_arith [h1, h2]
  exact q
theorem fday_wp {n : Dn} {f : Fld} {w ca : Int} {K : Vl × List D → Prop} (h : n.ok) (q : K (.im (rowOf f w n ca).d, [f.d, n.d, .int w, .int ca])) : @WO _ (F_field_day.sem [f.d, n.d, .int w, .int ca]) ⟨K⟩ := by
  rw [sem_field_day]
  simp_arith
  refine lets_wp h ?_
  simp_arith
  refine bank_wp h ?_
  simp_arith
  exact q
theorem below_wp {fl : List Fld} {g : D} {f : Fld} {K : Vl × List D → Prop} (ht : TerrOk fl) (hl : fl.length ≤ 8) (hf : f ∈ fl) (q : K (.fr (.lst ((blw fl f).map D.str)), [.tup [.tup (fl.map Fld.d), g], .str f.nm])) : @WO _ (F_below_of.sem [.tup [.tup (fl.map Fld.d), g], .str f.nm]) ⟨K⟩ := by
  have hd : dictD [.lst (fl.map fun f => .tup [.str f.nm, .str f.bl])] = some (.fr (.dk (fl.map fun f => (.inr f.nm, .str f.bl)))) := dictD_map ht.nd
  have hk : ∀ g ∈ fl, ixD [.dk (fl.map fun f => (.inr f.nm, .str f.bl)), .str g.nm] = some (.im (.str g.bl)) := fun g hg => by
    show (getK (fl.map fun f => ((.inr f.nm : Key), D.str f.bl)) (.inr g.nm)).map Vl.im = _
    rw [getK_map (k := Fld.nm) (v := fun f => D.str f.bl) ht.nd hg]
    rfl
  rw [sem_below_of]
  simp_arith
  refine W_comp_mapA Fld.d (fun f => .tup [.str f.nm, .str f.bl]) (fun f hf => ?_) ?_
  · simp_arith
  simp_arith
  refine WC_dec (by rw [List.length_map]; omega) ?_
  have bl0 := blw_len ht hf
  generalize hes : (fl.map fun f => ((.inr f.nm : Key), D.str f.bl)) = es at hd hk
  simp_arith [hd, ↓hk f hf]
  refine W_whl (fun m e => ∃ (found : List Str) (here : Str), e = [.im (.tup [.tup (fl.map Fld.d), g]), .im (.str f.nm), .ow (.dk es), .ow (.lst (found.map D.str)), .im (.str here), .em] ∧ ((here = noS ∧ found = blw fl f) ∨ ∃ g ∈ fl, g.nm = here ∧ found ++ g.nm :: blw fl g = blw fl f ∧ m = (blw fl g).length + 1)) ?_ (m := (blw fl f).length) ?_ (by omega)
  · rintro m _ ⟨found, here, rfl, hh⟩
    rcases hh with ⟨rfl, rfl⟩ | ⟨h, hh, rfl, he, rfl⟩
    · simp_arith [neD_str]
      exact q
    · have hne := (ht.ok h hh).ne
      have hfl : (found.map D.str).length ≤ 8 := by
        have : (found ++ h.nm :: blw fl h).length = (blw fl f).length := by rw [he]
        rw [List.length_append] at this
        rw [List.length_map]
        omega
      simp_arith [neD_str, hne, wb_below_of_1]
      refine WO_ifd (by omega) ?_
      simp_arith [↓hk h hh]
      have em : found.map D.str ++ [D.str h.nm] = (found ++ [h.nm]).map D.str := by
        rw [List.map_append]
        rfl
      rw [em]
      rcases blw_eq ht hh with ⟨e1, e2⟩ | ⟨k, hk', e1, e2, e3⟩
      · rw [e2] at he
        exact ⟨0, by omega, found ++ [h.nm], h.bl, rfl, .inl ⟨e1, he⟩⟩
      · refine ⟨(blw fl k).length + 1, by rw [e3, List.length_cons]; omega, found ++ [h.nm], h.bl, rfl, .inr ⟨k, hk', e1, ?_, rfl⟩⟩
        rw [List.append_assoc]
        rw [e3] at he
        exact he
  · refine ⟨[], f.bl, rfl, ?_⟩
    rcases blw_eq ht hf with ⟨e1, e2⟩ | ⟨k, hk', e1, e2, e3⟩
    · exact .inl ⟨e1, e2.symm⟩
    · exact .inr ⟨k, hk', e1, by rw [e3]; rfl, by rw [e3, List.length_cons]⟩
def wayD (fl : List Fld) (f : Fld) : D := .tup [.int (-((blw fl f).length : Int)), .str f.nm]
theorem way_wp {ts : List T3} {g : D} {K : Vl × List D → Prop} (ht : TerrOk (ts.map (·.1))) (hl : ts.length ≤ 8) (q : ∀ os, OrdT ts os → K (.fr (.lst (os.map fun t => .str t.1.nm)), [.tup [.tup ((ts.map (·.1)).map Fld.d), g]])) : @WO _ (F_way_down.sem [.tup [.tup ((ts.map (·.1)).map Fld.d), g]]) ⟨K⟩ := by
  have hl' : (ts.map (·.1)).length ≤ 8 := by rw [List.length_map]; exact hl
  rw [sem_way_down]
  simp_arith
  refine W_comp_mapA Fld.d (wayD (ts.map (·.1))) (fun f hf => ?_) ?_
  · simp_arith
    refine below_wp ht hl' hf ?_
    simp_arith [List.length_map]
    exact ⟨rfl, by simp [wipeE]⟩
  have hh : ∀ d ∈ (ts.map (·.1)).map (wayD (ts.map (·.1))), Has (.tup [.int (-8) 0, .str 8]) d := fun d hd => by
    obtain ⟨f, hf, rfl⟩ := List.mem_map.mp hd
    have := blw_len ht hf
    exact Has.mkT (.cons (Has.mkI (by omega) (by omega)) (.cons (Has.mkS (ht.ok f hf).1.1) .nil))
  have hso := sort_ok hh (by decide) (by decide) (by decide) (by rw [List.length_map]; omega)
  have hpw := sortL_pw ((ts.map (·.1)).map (wayD (ts.map (·.1))))
  have em : (ts.map (·.1)).map (wayD (ts.map (·.1))) = ts.map fun t => wayD (ts.map (·.1)) t.1 := by rw [List.map_map]; rfl
  simp_arith [List.length_map]
  refine WC_dec (by omega) ?_
  simp_arith [hso]
  rw [em] at hpw ⊢
  obtain ⟨os, hp, he⟩ := sortL_map (fun t : T3 => wayD (ts.map (·.1)) t.1) ts
  rw [he] at hpw ⊢
  refine W_comp_mapA (fun t : T3 => wayD (ts.map (·.1)) t.1) (fun t => .str t.1.nm) (fun t ht' => ?_) ?_
  · simp_arith [wayD]
  have hpl := hp.length_eq
  simp_arith [List.length_map]
  refine WC_dec (by omega) ?_
  simp_arith
  refine q os ⟨hp, fun i j t u hi hj e => ?_⟩
  have htm : t.1 ∈ ts.map (·.1) := List.mem_map.mpr ⟨t, hp.mem_iff.mp (List.mem_of_getElem? hi), rfl⟩
  have hum : u.1 ∈ ts.map (·.1) := List.mem_map.mpr ⟨u, hp.mem_iff.mp (List.mem_of_getElem? hj), rfl⟩
  have hlen : (blw (ts.map (·.1)) u.1).length = (blw (ts.map (·.1)) t.1).length + 1 := by
    rcases blw_eq ht hum with ⟨e1, _⟩ | ⟨k, hk, e1, _, e3⟩
    · exact absurd (e.symm.trans e1) (ht.ok _ htm).ne
    · rw [ht.eq hk htm (by rw [e1, e])] at e3
      rw [e3, List.length_cons]
  rcases Nat.lt_trichotomy j i with h | h | h
  · exact h
  · subst h
    rw [hi] at hj
    cases hj
    omega
  · have := List.pairwise_iff_getElem.mp hpw i j (by rw [List.length_map]; exact (List.getElem?_eq_some_iff.mp hi).1) (by rw [List.length_map]; exact (List.getElem?_eq_some_iff.mp hj).1) h
    rw [List.getElem_map, List.getElem_map] at this
    have e1 := (List.getElem?_eq_some_iff.mp hi).2
    have e2 := (List.getElem?_eq_some_iff.mp hj).2
    rw [e1, e2] at this
    have := le_first this
    omega
end L_k16
namespace L_k16
open PySem PySem.Spec PyProof.Rows L2 PD
local macro_rules | `(tactic| simp_arith [$xs,*]) => `(tactic| try simp only [↓W_rt, ↓W_bd, ↓W_eC, ↓W_eV, ↓W_cN, ↓W_cA, ↓W_eP, ↓W_eM, ↓W_ckT, ↓W_eU, ↓W_eTup, ↓W_eLst, ↓W_eDk, ↓W_eDt, ↓W_mB, ↓W_mT, ↓W_mNot, ↓W_mAnd, ↓W_mOr, ↓W_eNot, ↓W_eAnd, ↓W_eOr, ↓W_eIf, ↓W_eTmp, ↓W_mTmp, ↓W_oN, ↓W_oS, ↓W_eSl, ↓W_eChain, ↓W_sNil, ↓W_sPass, ↓W_sBrk, ↓W_sCnt, ↓W_sRetN, ↓W_sSeq, ↓W_sExp, ↓W_sRet, ↓W_sIf, ↓W_sAsg, ↓W_gsN, ↓W_gsC, ↓W_gT, ↓W_gTl, ↓W_gS, ↓W_hb_im, ↓W_hb_fr, ↓W_hb_bo, ↓W_sPF, ↓W_sPF3, ↓W_gN_im, ↓W_gN_fr, ↓W_gN_bo, ↓W_frz_im, ↓W_frz_fr, ↓W_frz_bo, ↓W_frzs_nil, ↓W_frzs_cons, ↓W_frzA_nil, ↓W_frzA_t, ↓W_frzA_im, ↓W_frzA_bo, ↓W_callE, ↓W_eCallN, ↓W_eCallF, ↓WO_runF, ↓W_mR1, ↓W_mR2, ↓W_mLst, ↓W_mTup, ↓W_mEnum, ↓W_mEnumT, ↓W_mStr, ↓W_mZip, ↓W_sFor, ↓W_sWhl, ↓W_eComp, ↓W_eTupB, ↓W_sAug, ↓W_mZipM, ↓W_gT_Fld, ↓W_gT_Gt, ↓W_gT_Lt, ↓W_gT_bD, ↓W_gT_Dn, ↓W_gT_Rw, ↓Fld_i0, ↓Fld_i1, ↓Fld_i2, ↓Fld_i3, ↓Fld_i4, ↓Gt_i0, ↓Gt_i1, ↓Gt_i2, ↓Gt_i3, ↓Lt_i0, ↓Lt_i1, ↓Lt_i2, ↓bD_i0, ↓bD_i1, ↓Dn_i0, ↓Dn_i1, ↓Dn_i2, ↓Dn_i3, ↓Rw_i0, ↓Rw_i1, ↓Rw_i2, ↓Rw_i3, ↓Rw_i4, ↓Rw_i5, ↓Rw_i6, ↓Ter_i0, ↓Ter_i1, WO_map, WO_some, WO_none, WB_true, WB_false, WC_true, goes_nx, goes_ct, goes_bk, goes_rt, cut_nx, cut_bk, cut_ct, cut_rt, puts_nil, puts_cons, List.getElem?_cons_zero, List.getElem?_cons_succ, setO, frzO_eq, Option.map_some, putO, putC, List.set_cons_zero, List.set_cons_succ, mutAtD, PD.cnts, PD.cnt, Vl.hold, tyT, beq_self_eq_true, small_eq, lessL_eq, decide_true, decide_false, List.length_cons, List.length_nil, mkE, List.replicate_succ, List.replicate_zero, List.cons_append, List.nil_append, outE, retV, ioAll, ioIx, brIx, mutAt, updE, disj, nmOut, Vl.nm, D.nm, D.nmC, nms, Sl.mut, Sl.frz, D.atom, List.map_cons, List.map_nil, wipeE, unwipe, calm_em, calm_im, calm_none, List.all_cons, List.all_nil, Bool.and_true, Bool.true_and, Bool.and_self, Bool.or_true, Bool.or_self, Bool.true_or, Bool.false_or, Bool.or_false, Bool.not_true, Bool.not_false, Bool.and_false, Bool.false_and, List.isEmpty_nil, List.isEmpty_cons, List.nodup_cons, List.nodup_nil, List.not_mem_nil, not_false_eq_true, and_self, List.contains_nil, if_true, if_false, Bool.false_eq_true, ite_true, ite_false, rg1, rg2, seqL, seqT, zipO, addD, subD, mulD, divD, modD, powD, negD, ltD, leD, gtD, geD, lenD, absD, minD, maxD, PD.intD, ixD, isnD, appendD, reverseD, extendD, slD, setD, listD, tupleD, tupleBD, truD, at0, at1, at2, at3, at4, at5, at6, at7, sd0, sd1, sd2, sd3, ixN, Int.cast_ofNat_Int, Int.reduceEq, Int.reduceNe, Int.reduceLT, Int.reduceLE, Int.reduceNeg, Int.reduceAdd, Int.reduceSub, Int.reduceMul, Int.reducePow, Nat.reducePow, Int.reduceToNat, Int.reduceAbs, ne_eq, not_true_eq_false, Nat.zero_add, Nat.add_zero, Nat.reduceAdd, Nat.reduceSub, Nat.reduceLT, Nat.reduceLeDiff, Nat.reduceEqDiff, Nat.reduceMul, i63_0, i63_1, zipMO_lt, zipMO_tl, zipMO_ll, List.flatten_cons, List.flatten_nil, Nat.lt_irrefl, reduceCtorEq, Nat.zero_lt_succ, Nat.reduceSubDiff, Nat.sub_zero, Nat.sub_self, Bool.not_eq_true, Bool.not_eq_false, b__law_left, wc_below_of_1, wl_below_of_1, ce_below_of_2, cp_below_of_2, b_below_of, ce_way_down_1, cp_way_down_1, ce_way_down_2, cp_way_down_2, b_way_down, ce_lets_into_1, cp_lets_into_1, b_lets_into, b_bank_of, b_field_day, ce_day_of_1, cp_day_of_1, fl_day_of_2, ce_day_of_3, cp_day_of_3, ce_day_of_4, cp_day_of_4, b_day_of, wc__law_same_1, wl__law_same_1, b__law_same, b__law_mix, b__law_pick, fl__law_some_names_1, ce__law_some_names_2, cp__law_some_names_2, ce__law_some_names_3, cp__law_some_names_3, ce__law_some_names_4, cp__law_some_names_4, b__law_some_names, ce__law_terrace_1, cp__law_terrace_1, ce__law_terrace_2, cp__law_terrace_2, ce__law_terrace_3, cp__law_terrace_3, fl__law_terrace_4, fl__law_terrace_5, b__law_terrace, ce_stand_of_1, cp_stand_of_1, b_stand_of, ce__law_field_row_1, cp__law_field_row_1, ce__law_field_row_2, cp__law_field_row_2, ce__law_field_row_3, cp__law_field_row_3, ce__law_field_row_4, cp__law_field_row_4, b__law_field_row, ce__law_day_1, cp__law_day_1, b__law_day, ce__law_right_1, cp__law_right_1, ce__law_right_2, cp__law_right_2, ce__law_right_3, cp__law_right_3, fl__law_right_4, b__law_right, fl_law_1, b_law, sig__law_left, sig_below_of, sig_way_down, sig_lets_into, sig_bank_of, sig_field_day, sig_day_of, sig__law_same, sig__law_mix, sig__law_pick, sig__law_some_names, sig__law_terrace, sig_stand_of, sig__law_day, sig__law_right, sig_law, $xs,*])
local macro_rules | `(tactic| simp_arith) => `(tactic| try simp only [↓W_rt, ↓W_bd, ↓W_eC, ↓W_eV, ↓W_cN, ↓W_cA, ↓W_eP, ↓W_eM, ↓W_ckT, ↓W_eU, ↓W_eTup, ↓W_eLst, ↓W_eDk, ↓W_eDt, ↓W_mB, ↓W_mT, ↓W_mNot, ↓W_mAnd, ↓W_mOr, ↓W_eNot, ↓W_eAnd, ↓W_eOr, ↓W_eIf, ↓W_eTmp, ↓W_mTmp, ↓W_oN, ↓W_oS, ↓W_eSl, ↓W_eChain, ↓W_sNil, ↓W_sPass, ↓W_sBrk, ↓W_sCnt, ↓W_sRetN, ↓W_sSeq, ↓W_sExp, ↓W_sRet, ↓W_sIf, ↓W_sAsg, ↓W_gsN, ↓W_gsC, ↓W_gT, ↓W_gTl, ↓W_gS, ↓W_hb_im, ↓W_hb_fr, ↓W_hb_bo, ↓W_sPF, ↓W_sPF3, ↓W_gN_im, ↓W_gN_fr, ↓W_gN_bo, ↓W_frz_im, ↓W_frz_fr, ↓W_frz_bo, ↓W_frzs_nil, ↓W_frzs_cons, ↓W_frzA_nil, ↓W_frzA_t, ↓W_frzA_im, ↓W_frzA_bo, ↓W_callE, ↓W_eCallN, ↓W_eCallF, ↓WO_runF, ↓W_mR1, ↓W_mR2, ↓W_mLst, ↓W_mTup, ↓W_mEnum, ↓W_mEnumT, ↓W_mStr, ↓W_mZip, ↓W_sFor, ↓W_sWhl, ↓W_eComp, ↓W_eTupB, ↓W_sAug, ↓W_mZipM, ↓W_gT_Fld, ↓W_gT_Gt, ↓W_gT_Lt, ↓W_gT_bD, ↓W_gT_Dn, ↓W_gT_Rw, ↓Fld_i0, ↓Fld_i1, ↓Fld_i2, ↓Fld_i3, ↓Fld_i4, ↓Gt_i0, ↓Gt_i1, ↓Gt_i2, ↓Gt_i3, ↓Lt_i0, ↓Lt_i1, ↓Lt_i2, ↓bD_i0, ↓bD_i1, ↓Dn_i0, ↓Dn_i1, ↓Dn_i2, ↓Dn_i3, ↓Rw_i0, ↓Rw_i1, ↓Rw_i2, ↓Rw_i3, ↓Rw_i4, ↓Rw_i5, ↓Rw_i6, ↓Ter_i0, ↓Ter_i1, WO_map, WO_some, WO_none, WB_true, WB_false, WC_true, goes_nx, goes_ct, goes_bk, goes_rt, cut_nx, cut_bk, cut_ct, cut_rt, puts_nil, puts_cons, List.getElem?_cons_zero, List.getElem?_cons_succ, setO, frzO_eq, Option.map_some, putO, putC, List.set_cons_zero, List.set_cons_succ, mutAtD, PD.cnts, PD.cnt, Vl.hold, tyT, beq_self_eq_true, small_eq, lessL_eq, decide_true, decide_false, List.length_cons, List.length_nil, mkE, List.replicate_succ, List.replicate_zero, List.cons_append, List.nil_append, outE, retV, ioAll, ioIx, brIx, mutAt, updE, disj, nmOut, Vl.nm, D.nm, D.nmC, nms, Sl.mut, Sl.frz, D.atom, List.map_cons, List.map_nil, wipeE, unwipe, calm_em, calm_im, calm_none, List.all_cons, List.all_nil, Bool.and_true, Bool.true_and, Bool.and_self, Bool.or_true, Bool.or_self, Bool.true_or, Bool.false_or, Bool.or_false, Bool.not_true, Bool.not_false, Bool.and_false, Bool.false_and, List.isEmpty_nil, List.isEmpty_cons, List.nodup_cons, List.nodup_nil, List.not_mem_nil, not_false_eq_true, and_self, List.contains_nil, if_true, if_false, Bool.false_eq_true, ite_true, ite_false, rg1, rg2, seqL, seqT, zipO, addD, subD, mulD, divD, modD, powD, negD, ltD, leD, gtD, geD, lenD, absD, minD, maxD, PD.intD, ixD, isnD, appendD, reverseD, extendD, slD, setD, listD, tupleD, tupleBD, truD, at0, at1, at2, at3, at4, at5, at6, at7, sd0, sd1, sd2, sd3, ixN, Int.cast_ofNat_Int, Int.reduceEq, Int.reduceNe, Int.reduceLT, Int.reduceLE, Int.reduceNeg, Int.reduceAdd, Int.reduceSub, Int.reduceMul, Int.reducePow, Nat.reducePow, Int.reduceToNat, Int.reduceAbs, ne_eq, not_true_eq_false, Nat.zero_add, Nat.add_zero, Nat.reduceAdd, Nat.reduceSub, Nat.reduceLT, Nat.reduceLeDiff, Nat.reduceEqDiff, Nat.reduceMul, i63_0, i63_1, zipMO_lt, zipMO_tl, zipMO_ll, List.flatten_cons, List.flatten_nil, Nat.lt_irrefl, reduceCtorEq, Nat.zero_lt_succ, Nat.reduceSubDiff, Nat.sub_zero, Nat.sub_self, Bool.not_eq_true, Bool.not_eq_false, b__law_left, wc_below_of_1, wl_below_of_1, ce_below_of_2, cp_below_of_2, b_below_of, ce_way_down_1, cp_way_down_1, ce_way_down_2, cp_way_down_2, b_way_down, ce_lets_into_1, cp_lets_into_1, b_lets_into, b_bank_of, b_field_day, ce_day_of_1, cp_day_of_1, fl_day_of_2, ce_day_of_3, cp_day_of_3, ce_day_of_4, cp_day_of_4, b_day_of, wc__law_same_1, wl__law_same_1, b__law_same, b__law_mix, b__law_pick, fl__law_some_names_1, ce__law_some_names_2, cp__law_some_names_2, ce__law_some_names_3, cp__law_some_names_3, ce__law_some_names_4, cp__law_some_names_4, b__law_some_names, ce__law_terrace_1, cp__law_terrace_1, ce__law_terrace_2, cp__law_terrace_2, ce__law_terrace_3, cp__law_terrace_3, fl__law_terrace_4, fl__law_terrace_5, b__law_terrace, ce_stand_of_1, cp_stand_of_1, b_stand_of, ce__law_field_row_1, cp__law_field_row_1, ce__law_field_row_2, cp__law_field_row_2, ce__law_field_row_3, cp__law_field_row_3, ce__law_field_row_4, cp__law_field_row_4, b__law_field_row, ce__law_day_1, cp__law_day_1, b__law_day, ce__law_right_1, cp__law_right_1, ce__law_right_2, cp__law_right_2, ce__law_right_3, cp__law_right_3, fl__law_right_4, b__law_right, fl_law_1, b_law, sig__law_left, sig_below_of, sig_way_down, sig_lets_into, sig_bank_of, sig_field_day, sig_day_of, sig__law_same, sig__law_mix, sig__law_pick, sig__law_some_names, sig__law_terrace, sig_stand_of, sig__law_day, sig__law_right, sig_law])
theorem day_wp {fl : List Fld} {st : List Int} {n : Dn} {g : D} {K : Vl × List D → Prop} (ht : TerrOk fl) (hl : fl.length ≤ 8) (hst : st.length = fl.length) (hn : n.ok)
    (q : K (.fr (.lst ((dayR fl st n).map Rw.d)), [.tup [.tup (fl.map Fld.d), g], .tup (st.map D.int), n.d])) : @WO _ (F_day_of.sem [.tup [.tup (fl.map Fld.d), g], .tup (st.map D.int), n.d]) ⟨K⟩ := by
  have hsol := dayR_sol (n := n) ht hst
  generalize dayR fl st n = rs at hsol q
  obtain ⟨ts, rfl, rfl, rfl⟩ := side3 hst hsol.len
  have htl : ts.length ≤ 8 := by rwa [List.length_map] at hl
  have hrow : ∀ t ∈ ts, t.2.2 = rowOf t.1 t.2.1 n (cameOf (ts.map (·.1)) (ts.map (·.2.2)) t.1.nm) := fun t h => by
    obtain ⟨i, hi⟩ := List.mem_iff_getElem?.mp h
    exact hsol.row i t.1 t.2.1 t.2.2 (by rw [List.getElem?_map, hi]; rfl) (by rw [List.getElem?_map, hi]; rfl) (by rw [List.getElem?_map, hi]; rfl)
  have hd : dictD [.lst ((ts.map (·.1)).map fun f => .tup [.str f.nm, f.d])] = some (.fr (.dk ((ts.map (·.1)).map fun f => (.inr f.nm, f.d)))) := dictD_map ht.nd
  have hz : dictZipD [.lst ((ts.map (·.1)).map fun f => .str f.nm), .tup ((ts.map (·.2.1)).map D.int)] = some (.fr (.dk (ts.map fun t => (.inr t.1.nm, .int t.2.1)))) := by
    have e1 : (ts.map (·.1)).map (fun f : Fld => D.str f.nm) = ts.map fun t => D.str t.1.nm := by rw [List.map_map]; rfl
    have e2 : (ts.map (·.2.1)).map D.int = ts.map fun t => D.int t.2.1 := by rw [List.map_map]; rfl
    rw [e1, e2]
    exact dictZip_map (k := fun t : T3 => t.1.nm) (v := fun t => D.int t.2.1) (by have := ht.nd; rwa [List.map_map] at this)
  have hk1 : ∀ t ∈ ts, ixD [.dk ((ts.map (·.1)).map fun f => (.inr f.nm, f.d)), .str t.1.nm] = some (.im t.1.d) := fun t h => by
    show (getK ((ts.map (·.1)).map fun f => ((.inr f.nm : Key), f.d)) (.inr t.1.nm)).map Vl.im = _
    rw [getK_map (k := Fld.nm) (v := Fld.d) ht.nd (List.mem_map.mpr ⟨t, h, rfl⟩)]
    rfl
  have hk2 : ∀ t ∈ ts, ixD [.dk (ts.map fun t => (.inr t.1.nm, .int t.2.1)), .str t.1.nm] = some (.im (.int t.2.1)) := fun t h => by
    show (getK (ts.map fun t => ((.inr t.1.nm : Key), D.int t.2.1)) (.inr t.1.nm)).map Vl.im = _
    rw [getK_map (k := fun t : T3 => t.1.nm) (v := fun t => D.int t.2.1) (by have := ht.nd; rwa [List.map_map] at this) h]
    rfl
  have sd : ∀ (es : List (Key × D)) (x : Str) (v : D), setDk (.dk es) (.str x) v = if lessL es.length = true then some (.dk (putD es (.inr x) v)) else none := fun _ _ _ => rfl
  rw [sem_day_of]
  simp_arith
  refine W_comp_mapA Fld.d (fun f => .tup [.str f.nm, f.d]) (fun f hf => ?_) ?_
  · simp_arith
  simp_arith [List.length_map]
  refine WC_dec (by omega) ?_
  simp_arith [hd]
  refine W_comp_mapA Fld.d (fun f => .str f.nm) (fun f hf => ?_) ?_
  · simp_arith
  simp_arith [List.length_map]
  refine WC_dec (by omega) ?_
  generalize hfd : ((ts.map (·.1)).map fun f : Fld => ((.inr f.nm : Key), f.d)) = fd at hk1
  generalize hwd : (ts.map fun t : T3 => ((.inr t.1.nm : Key), D.int t.2.1)) = wd at hk2 hz
  simp_arith [hz]
  refine way_wp ht htl fun os ho => ?_
  have hol := ho.perm.length_eq
  simp_arith
  refine W_forE (fun e0 i e => ∃ ce re a b, ce.length ≤ i ∧ re.length ≤ i ∧ (∀ x : Str, (getK ce (.inr x)).getD (.int 0) = .int (((os.take i).map (camT x)).sum)) ∧ (∀ t ∈ os.take i, getK re (.inr t.1.nm) = some t.2.2.d) ∧ e = puts e0 [(5, .ow (.dk ce)), (6, .ow (.dk re)), (7, a), (8, b)])
    ⟨[], [], _, _, Nat.le_refl _, Nat.le_refl _, fun x => rfl, fun t h => by simp at h, rfl⟩ ?_ ?_
  · rintro i d _ hd' ⟨ce, re, a, b, c1, c2, c3, c4, rfl⟩
    obtain ⟨t, hi, htm, rfl⟩ := at_map hd'
    have hts : t ∈ ts := ho.perm.mem_iff.mp htm
    have hio := lt_at hi
    have g1 : ∀ x : Str, getKD [.dk ce, .str x, .int 0] = some (.im (.int (((os.take i).map (camT x)).sum))) := fun x => by
      show some (Vl.im ((getK ce (.inr x)).getD (.int 0))) = _
      rw [c3 x]
    have g2 : ixD [.dk (putD re (.inr t.1.nm) t.2.2.d), .str t.1.nm] = some (.im t.2.2.d) := by
      show (getK (putD re (.inr t.1.nm) t.2.2.d) (.inr t.1.nm)).map Vl.im = _
      rw [getK_put, if_pos rfl]
      rfl
    simp_arith [↓hk1 t hts, ↓hk2 t hts, g1, fb_day_of_2]
    refine fday_wp hn ?_
    rw [ho.came hi, ← hrow t hts]
    simp_arith [sd]
    refine WO_ifd (by omega) ?_
    simp_arith [↓hk1 t hts, ↓g2, g1, sd]
    refine WO_ifd (by omega) ?_
    simp_arith
    refine ⟨_, _, _, _, Nat.le_trans (putD_len _ _ _) (by omega), Nat.le_trans (putD_len _ _ _) (by omega), fun x => ?_, fun u hu => ?_, rfl⟩
    · rw [getK_put, take_snoc hi, List.map_append, sum_app', List.map_singleton, List.sum_singleton]
      by_cases hx : t.1.bl = x
      · rw [if_pos (by rw [hx]), ← hx, camT, if_pos rfl]
        rfl
      · rw [if_neg (by simpa using hx), c3 x, camT, if_neg hx, Int.add_zero]
    · rw [take_snoc hi] at hu
      rw [getK_put]
      rcases List.mem_append.mp hu with hu | hu
      · split
        · rename_i e
          have e : t.1.nm = u.1.nm := by simpa using e
          obtain ⟨j, hj⟩ := List.mem_iff_getElem?.mp hts
          have hus : u ∈ ts := ho.perm.mem_iff.mp (List.mem_of_mem_take hu)
          obtain ⟨k, hk⟩ := List.mem_iff_getElem?.mp hus
          have := ht.ix (i := j) (j := k) (f := t.1) (g := u.1) (by rw [List.getElem?_map, hj]; rfl) (by rw [List.getElem?_map, hk]; rfl) e
          subst this
          rw [hj] at hk
          cases hk
          rfl
        · exact c4 u hu
      · rw [List.mem_singleton.mp hu, if_pos rfl]
  · rintro _ ⟨ce, re, a, b, c1, c2, c3, c4, rfl⟩
    rw [List.length_map, List.take_length] at c4
    have hre : ∀ f ∈ ts.map (·.1), ixD [.dk re, .str f.nm] = some (.im ((getK re (.inr f.nm)).getD .non)) := fun f hf => by
      obtain ⟨t, htt, rfl⟩ := List.mem_map.mp hf
      show (getK re (.inr t.1.nm)).map Vl.im = _
      rw [c4 t (ho.perm.mem_iff.mpr htt)]
      rfl
    simp_arith
    refine W_comp_mapA Fld.d (fun f => (getK re (.inr f.nm)).getD .non) (fun f hf => ?_) ?_
    · simp_arith [↓hre f hf]
    have em : (ts.map (·.1)).map (fun f : Fld => (getK re (.inr f.nm)).getD .non) = (ts.map (·.2.2)).map Rw.d := by
      rw [List.map_map, List.map_map]
      refine List.map_congr_left fun t htt => ?_
      show (getK re (.inr t.1.nm)).getD .non = _
      rw [c4 t (ho.perm.mem_iff.mpr htt)]
      rfl
    rw [em]
    simp_arith [List.length_map]
    refine WC_dec (by omega) ?_
    simp_arith
    exact q
end L_k16
namespace L_k16
open PySem PySem.Spec PyProof.Rows L2 PD
local macro_rules | `(tactic| simp_arith [$xs,*]) => `(tactic| try simp only [↓W_rt, ↓W_bd, ↓W_eC, ↓W_eV, ↓W_cN, ↓W_cA, ↓W_eP, ↓W_eM, ↓W_ckT, ↓W_eU, ↓W_eTup, ↓W_eLst, ↓W_eDk, ↓W_eDt, ↓W_mB, ↓W_mT, ↓W_mNot, ↓W_mAnd, ↓W_mOr, ↓W_eNot, ↓W_eAnd, ↓W_eOr, ↓W_eIf, ↓W_eTmp, ↓W_mTmp, ↓W_oN, ↓W_oS, ↓W_eSl, ↓W_eChain, ↓W_sNil, ↓W_sPass, ↓W_sBrk, ↓W_sCnt, ↓W_sRetN, ↓W_sSeq, ↓W_sExp, ↓W_sRet, ↓W_sIf, ↓W_sAsg, ↓W_gsN, ↓W_gsC, ↓W_gT, ↓W_gTl, ↓W_gS, ↓W_hb_im, ↓W_hb_fr, ↓W_hb_bo, ↓W_sPF, ↓W_sPF3, ↓W_gN_im, ↓W_gN_fr, ↓W_gN_bo, ↓W_frz_im, ↓W_frz_fr, ↓W_frz_bo, ↓W_frzs_nil, ↓W_frzs_cons, ↓W_frzA_nil, ↓W_frzA_t, ↓W_frzA_im, ↓W_frzA_bo, ↓W_callE, ↓W_eCallN, ↓W_eCallF, ↓WO_runF, ↓W_mR1, ↓W_mR2, ↓W_mLst, ↓W_mTup, ↓W_mEnum, ↓W_mEnumT, ↓W_mStr, ↓W_mZip, ↓W_sFor, ↓W_sWhl, ↓W_eComp, ↓W_eTupB, ↓W_sAug, ↓W_mZipM, ↓W_gT_Fld, ↓W_gT_Gt, ↓W_gT_Lt, ↓W_gT_bD, ↓W_gT_Dn, ↓W_gT_Rw, ↓Fld_i0, ↓Fld_i1, ↓Fld_i2, ↓Fld_i3, ↓Fld_i4, ↓Gt_i0, ↓Gt_i1, ↓Gt_i2, ↓Gt_i3, ↓Lt_i0, ↓Lt_i1, ↓Lt_i2, ↓bD_i0, ↓bD_i1, ↓Dn_i0, ↓Dn_i1, ↓Dn_i2, ↓Dn_i3, ↓Rw_i0, ↓Rw_i1, ↓Rw_i2, ↓Rw_i3, ↓Rw_i4, ↓Rw_i5, ↓Rw_i6, ↓Ter_i0, ↓Ter_i1, WO_map, WO_some, WO_none, WB_true, WB_false, WC_true, goes_nx, goes_ct, goes_bk, goes_rt, cut_nx, cut_bk, cut_ct, cut_rt, puts_nil, puts_cons, List.getElem?_cons_zero, List.getElem?_cons_succ, setO, frzO_eq, Option.map_some, putO, putC, List.set_cons_zero, List.set_cons_succ, mutAtD, PD.cnts, PD.cnt, Vl.hold, tyT, beq_self_eq_true, small_eq, lessL_eq, decide_true, decide_false, List.length_cons, List.length_nil, mkE, List.replicate_succ, List.replicate_zero, List.cons_append, List.nil_append, outE, retV, ioAll, ioIx, brIx, mutAt, updE, disj, nmOut, Vl.nm, D.nm, D.nmC, nms, Sl.mut, Sl.frz, D.atom, List.map_cons, List.map_nil, wipeE, unwipe, calm_em, calm_im, calm_none, List.all_cons, List.all_nil, Bool.and_true, Bool.true_and, Bool.and_self, Bool.or_true, Bool.or_self, Bool.true_or, Bool.false_or, Bool.or_false, Bool.not_true, Bool.not_false, Bool.and_false, Bool.false_and, List.isEmpty_nil, List.isEmpty_cons, List.nodup_cons, List.nodup_nil, List.not_mem_nil, not_false_eq_true, and_self, List.contains_nil, if_true, if_false, Bool.false_eq_true, ite_true, ite_false, rg1, rg2, seqL, seqT, zipO, addD, subD, mulD, divD, modD, powD, negD, ltD, leD, gtD, geD, lenD, absD, minD, maxD, PD.intD, ixD, isnD, appendD, reverseD, extendD, slD, setD, listD, tupleD, tupleBD, truD, at0, at1, at2, at3, at4, at5, at6, at7, sd0, sd1, sd2, sd3, ixN, Int.cast_ofNat_Int, Int.reduceEq, Int.reduceNe, Int.reduceLT, Int.reduceLE, Int.reduceNeg, Int.reduceAdd, Int.reduceSub, Int.reduceMul, Int.reducePow, Nat.reducePow, Int.reduceToNat, Int.reduceAbs, ne_eq, not_true_eq_false, Nat.zero_add, Nat.add_zero, Nat.reduceAdd, Nat.reduceSub, Nat.reduceLT, Nat.reduceLeDiff, Nat.reduceEqDiff, Nat.reduceMul, i63_0, i63_1, zipMO_lt, zipMO_tl, zipMO_ll, List.flatten_cons, List.flatten_nil, Nat.lt_irrefl, reduceCtorEq, Nat.zero_lt_succ, Nat.reduceSubDiff, Nat.sub_zero, Nat.sub_self, Bool.not_eq_true, Bool.not_eq_false, b__law_left, wc_below_of_1, wl_below_of_1, ce_below_of_2, cp_below_of_2, b_below_of, ce_way_down_1, cp_way_down_1, ce_way_down_2, cp_way_down_2, b_way_down, ce_lets_into_1, cp_lets_into_1, b_lets_into, b_bank_of, b_field_day, ce_day_of_1, cp_day_of_1, fl_day_of_2, ce_day_of_3, cp_day_of_3, ce_day_of_4, cp_day_of_4, b_day_of, wc__law_same_1, wl__law_same_1, b__law_same, b__law_mix, b__law_pick, fl__law_some_names_1, ce__law_some_names_2, cp__law_some_names_2, ce__law_some_names_3, cp__law_some_names_3, ce__law_some_names_4, cp__law_some_names_4, b__law_some_names, ce__law_terrace_1, cp__law_terrace_1, ce__law_terrace_2, cp__law_terrace_2, ce__law_terrace_3, cp__law_terrace_3, fl__law_terrace_4, fl__law_terrace_5, b__law_terrace, ce_stand_of_1, cp_stand_of_1, b_stand_of, ce__law_field_row_1, cp__law_field_row_1, ce__law_field_row_2, cp__law_field_row_2, ce__law_field_row_3, cp__law_field_row_3, ce__law_field_row_4, cp__law_field_row_4, b__law_field_row, ce__law_day_1, cp__law_day_1, b__law_day, ce__law_right_1, cp__law_right_1, ce__law_right_2, cp__law_right_2, ce__law_right_3, cp__law_right_3, fl__law_right_4, b__law_right, fl_law_1, b_law, sig__law_left, sig_below_of, sig_way_down, sig_lets_into, sig_bank_of, sig_field_day, sig_day_of, sig__law_same, sig__law_mix, sig__law_pick, sig__law_some_names, sig__law_terrace, sig_stand_of, sig__law_day, sig__law_right, sig_law, $xs,*])
local macro_rules | `(tactic| simp_arith) => `(tactic| try simp only [↓W_rt, ↓W_bd, ↓W_eC, ↓W_eV, ↓W_cN, ↓W_cA, ↓W_eP, ↓W_eM, ↓W_ckT, ↓W_eU, ↓W_eTup, ↓W_eLst, ↓W_eDk, ↓W_eDt, ↓W_mB, ↓W_mT, ↓W_mNot, ↓W_mAnd, ↓W_mOr, ↓W_eNot, ↓W_eAnd, ↓W_eOr, ↓W_eIf, ↓W_eTmp, ↓W_mTmp, ↓W_oN, ↓W_oS, ↓W_eSl, ↓W_eChain, ↓W_sNil, ↓W_sPass, ↓W_sBrk, ↓W_sCnt, ↓W_sRetN, ↓W_sSeq, ↓W_sExp, ↓W_sRet, ↓W_sIf, ↓W_sAsg, ↓W_gsN, ↓W_gsC, ↓W_gT, ↓W_gTl, ↓W_gS, ↓W_hb_im, ↓W_hb_fr, ↓W_hb_bo, ↓W_sPF, ↓W_sPF3, ↓W_gN_im, ↓W_gN_fr, ↓W_gN_bo, ↓W_frz_im, ↓W_frz_fr, ↓W_frz_bo, ↓W_frzs_nil, ↓W_frzs_cons, ↓W_frzA_nil, ↓W_frzA_t, ↓W_frzA_im, ↓W_frzA_bo, ↓W_callE, ↓W_eCallN, ↓W_eCallF, ↓WO_runF, ↓W_mR1, ↓W_mR2, ↓W_mLst, ↓W_mTup, ↓W_mEnum, ↓W_mEnumT, ↓W_mStr, ↓W_mZip, ↓W_sFor, ↓W_sWhl, ↓W_eComp, ↓W_eTupB, ↓W_sAug, ↓W_mZipM, ↓W_gT_Fld, ↓W_gT_Gt, ↓W_gT_Lt, ↓W_gT_bD, ↓W_gT_Dn, ↓W_gT_Rw, ↓Fld_i0, ↓Fld_i1, ↓Fld_i2, ↓Fld_i3, ↓Fld_i4, ↓Gt_i0, ↓Gt_i1, ↓Gt_i2, ↓Gt_i3, ↓Lt_i0, ↓Lt_i1, ↓Lt_i2, ↓bD_i0, ↓bD_i1, ↓Dn_i0, ↓Dn_i1, ↓Dn_i2, ↓Dn_i3, ↓Rw_i0, ↓Rw_i1, ↓Rw_i2, ↓Rw_i3, ↓Rw_i4, ↓Rw_i5, ↓Rw_i6, ↓Ter_i0, ↓Ter_i1, WO_map, WO_some, WO_none, WB_true, WB_false, WC_true, goes_nx, goes_ct, goes_bk, goes_rt, cut_nx, cut_bk, cut_ct, cut_rt, puts_nil, puts_cons, List.getElem?_cons_zero, List.getElem?_cons_succ, setO, frzO_eq, Option.map_some, putO, putC, List.set_cons_zero, List.set_cons_succ, mutAtD, PD.cnts, PD.cnt, Vl.hold, tyT, beq_self_eq_true, small_eq, lessL_eq, decide_true, decide_false, List.length_cons, List.length_nil, mkE, List.replicate_succ, List.replicate_zero, List.cons_append, List.nil_append, outE, retV, ioAll, ioIx, brIx, mutAt, updE, disj, nmOut, Vl.nm, D.nm, D.nmC, nms, Sl.mut, Sl.frz, D.atom, List.map_cons, List.map_nil, wipeE, unwipe, calm_em, calm_im, calm_none, List.all_cons, List.all_nil, Bool.and_true, Bool.true_and, Bool.and_self, Bool.or_true, Bool.or_self, Bool.true_or, Bool.false_or, Bool.or_false, Bool.not_true, Bool.not_false, Bool.and_false, Bool.false_and, List.isEmpty_nil, List.isEmpty_cons, List.nodup_cons, List.nodup_nil, List.not_mem_nil, not_false_eq_true, and_self, List.contains_nil, if_true, if_false, Bool.false_eq_true, ite_true, ite_false, rg1, rg2, seqL, seqT, zipO, addD, subD, mulD, divD, modD, powD, negD, ltD, leD, gtD, geD, lenD, absD, minD, maxD, PD.intD, ixD, isnD, appendD, reverseD, extendD, slD, setD, listD, tupleD, tupleBD, truD, at0, at1, at2, at3, at4, at5, at6, at7, sd0, sd1, sd2, sd3, ixN, Int.cast_ofNat_Int, Int.reduceEq, Int.reduceNe, Int.reduceLT, Int.reduceLE, Int.reduceNeg, Int.reduceAdd, Int.reduceSub, Int.reduceMul, Int.reducePow, Nat.reducePow, Int.reduceToNat, Int.reduceAbs, ne_eq, not_true_eq_false, Nat.zero_add, Nat.add_zero, Nat.reduceAdd, Nat.reduceSub, Nat.reduceLT, Nat.reduceLeDiff, Nat.reduceEqDiff, Nat.reduceMul, i63_0, i63_1, zipMO_lt, zipMO_tl, zipMO_ll, List.flatten_cons, List.flatten_nil, Nat.lt_irrefl, reduceCtorEq, Nat.zero_lt_succ, Nat.reduceSubDiff, Nat.sub_zero, Nat.sub_self, Bool.not_eq_true, Bool.not_eq_false, b__law_left, wc_below_of_1, wl_below_of_1, ce_below_of_2, cp_below_of_2, b_below_of, ce_way_down_1, cp_way_down_1, ce_way_down_2, cp_way_down_2, b_way_down, ce_lets_into_1, cp_lets_into_1, b_lets_into, b_bank_of, b_field_day, ce_day_of_1, cp_day_of_1, fl_day_of_2, ce_day_of_3, cp_day_of_3, ce_day_of_4, cp_day_of_4, b_day_of, wc__law_same_1, wl__law_same_1, b__law_same, b__law_mix, b__law_pick, fl__law_some_names_1, ce__law_some_names_2, cp__law_some_names_2, ce__law_some_names_3, cp__law_some_names_3, ce__law_some_names_4, cp__law_some_names_4, b__law_some_names, ce__law_terrace_1, cp__law_terrace_1, ce__law_terrace_2, cp__law_terrace_2, ce__law_terrace_3, cp__law_terrace_3, fl__law_terrace_4, fl__law_terrace_5, b__law_terrace, ce_stand_of_1, cp_stand_of_1, b_stand_of, ce__law_field_row_1, cp__law_field_row_1, ce__law_field_row_2, cp__law_field_row_2, ce__law_field_row_3, cp__law_field_row_3, ce__law_field_row_4, cp__law_field_row_4, b__law_field_row, ce__law_day_1, cp__law_day_1, b__law_day, ce__law_right_1, cp__law_right_1, ce__law_right_2, cp__law_right_2, ce__law_right_3, cp__law_right_3, fl__law_right_4, b__law_right, fl_law_1, b_law, sig__law_left, sig_below_of, sig_way_down, sig_lets_into, sig_bank_of, sig_field_day, sig_day_of, sig__law_same, sig__law_mix, sig__law_pick, sig__law_some_names, sig__law_terrace, sig_stand_of, sig__law_day, sig__law_right, sig_law])
theorem stof_wp {rs : List Rw} {K : Vl × List D → Prop} (hl : rs.length ≤ 100000) (q : K (.im (.tup ((rs.map Rw.st).map D.int)), [.lst (rs.map Rw.d)])) : @WO _ (F_stand_of.sem [.lst (rs.map Rw.d)]) ⟨K⟩ := by
  rw [sem_stand_of]
  simp_arith
  refine W_comp_mapA Rw.d (fun r => .int r.st) (fun r hr => ?_) ?_
  · simp_arith
  have em : rs.map (fun r => D.int r.st) = (rs.map Rw.st).map D.int := by rw [List.map_map]; rfl
  rw [em]
  simp_arith [List.length_map]
  refine WC_dec (by omega) ?_
  simp_arith
  exact q
end L_k16
namespace L_k16
open PySem PySem.Spec PyProof.Rows L2 PD
local macro_rules | `(tactic| simp_arith [$xs,*]) => `(tactic| try simp only [↓W_rt, ↓W_bd, ↓W_eC, ↓W_eV, ↓W_cN, ↓W_cA, ↓W_eP, ↓W_eM, ↓W_ckT, ↓W_eU, ↓W_eTup, ↓W_eLst, ↓W_eDk, ↓W_eDt, ↓W_mB, ↓W_mT, ↓W_mNot, ↓W_mAnd, ↓W_mOr, ↓W_eNot, ↓W_eAnd, ↓W_eOr, ↓W_eIf, ↓W_eTmp, ↓W_mTmp, ↓W_oN, ↓W_oS, ↓W_eSl, ↓W_eChain, ↓W_sNil, ↓W_sPass, ↓W_sBrk, ↓W_sCnt, ↓W_sRetN, ↓W_sSeq, ↓W_sExp, ↓W_sRet, ↓W_sIf, ↓W_sAsg, ↓W_gsN, ↓W_gsC, ↓W_gT, ↓W_gTl, ↓W_gS, ↓W_hb_im, ↓W_hb_fr, ↓W_hb_bo, ↓W_sPF, ↓W_sPF3, ↓W_gN_im, ↓W_gN_fr, ↓W_gN_bo, ↓W_frz_im, ↓W_frz_fr, ↓W_frz_bo, ↓W_frzs_nil, ↓W_frzs_cons, ↓W_frzA_nil, ↓W_frzA_t, ↓W_frzA_im, ↓W_frzA_bo, ↓W_callE, ↓W_eCallN, ↓W_eCallF, ↓WO_runF, ↓W_mR1, ↓W_mR2, ↓W_mLst, ↓W_mTup, ↓W_mEnum, ↓W_mEnumT, ↓W_mStr, ↓W_mZip, ↓W_sFor, ↓W_sWhl, ↓W_eComp, ↓W_eTupB, ↓W_sAug, ↓W_mZipM, ↓W_gT_Fld, ↓W_gT_Gt, ↓W_gT_Lt, ↓W_gT_bD, ↓W_gT_Dn, ↓W_gT_Rw, ↓Fld_i0, ↓Fld_i1, ↓Fld_i2, ↓Fld_i3, ↓Fld_i4, ↓Gt_i0, ↓Gt_i1, ↓Gt_i2, ↓Gt_i3, ↓Lt_i0, ↓Lt_i1, ↓Lt_i2, ↓bD_i0, ↓bD_i1, ↓Dn_i0, ↓Dn_i1, ↓Dn_i2, ↓Dn_i3, ↓Rw_i0, ↓Rw_i1, ↓Rw_i2, ↓Rw_i3, ↓Rw_i4, ↓Rw_i5, ↓Rw_i6, ↓Ter_i0, ↓Ter_i1, WO_map, WO_some, WO_none, WB_true, WB_false, WC_true, goes_nx, goes_ct, goes_bk, goes_rt, cut_nx, cut_bk, cut_ct, cut_rt, puts_nil, puts_cons, List.getElem?_cons_zero, List.getElem?_cons_succ, setO, frzO_eq, Option.map_some, putO, putC, List.set_cons_zero, List.set_cons_succ, mutAtD, PD.cnts, PD.cnt, Vl.hold, tyT, beq_self_eq_true, small_eq, lessL_eq, decide_true, decide_false, List.length_cons, List.length_nil, mkE, List.replicate_succ, List.replicate_zero, List.cons_append, List.nil_append, outE, retV, ioAll, ioIx, brIx, mutAt, updE, disj, nmOut, Vl.nm, D.nm, D.nmC, nms, Sl.mut, Sl.frz, D.atom, List.map_cons, List.map_nil, wipeE, unwipe, calm_em, calm_im, calm_none, List.all_cons, List.all_nil, Bool.and_true, Bool.true_and, Bool.and_self, Bool.or_true, Bool.or_self, Bool.true_or, Bool.false_or, Bool.or_false, Bool.not_true, Bool.not_false, Bool.and_false, Bool.false_and, List.isEmpty_nil, List.isEmpty_cons, List.nodup_cons, List.nodup_nil, List.not_mem_nil, not_false_eq_true, and_self, List.contains_nil, if_true, if_false, Bool.false_eq_true, ite_true, ite_false, rg1, rg2, seqL, seqT, zipO, addD, subD, mulD, divD, modD, powD, negD, ltD, leD, gtD, geD, lenD, absD, minD, maxD, PD.intD, ixD, isnD, appendD, reverseD, extendD, slD, setD, listD, tupleD, tupleBD, truD, at0, at1, at2, at3, at4, at5, at6, at7, sd0, sd1, sd2, sd3, ixN, Int.cast_ofNat_Int, Int.reduceEq, Int.reduceNe, Int.reduceLT, Int.reduceLE, Int.reduceNeg, Int.reduceAdd, Int.reduceSub, Int.reduceMul, Int.reducePow, Nat.reducePow, Int.reduceToNat, Int.reduceAbs, ne_eq, not_true_eq_false, Nat.zero_add, Nat.add_zero, Nat.reduceAdd, Nat.reduceSub, Nat.reduceLT, Nat.reduceLeDiff, Nat.reduceEqDiff, Nat.reduceMul, i63_0, i63_1, zipMO_lt, zipMO_tl, zipMO_ll, List.flatten_cons, List.flatten_nil, Nat.lt_irrefl, reduceCtorEq, Nat.zero_lt_succ, Nat.reduceSubDiff, Nat.sub_zero, Nat.sub_self, Bool.not_eq_true, Bool.not_eq_false, b__law_left, wc_below_of_1, wl_below_of_1, ce_below_of_2, cp_below_of_2, b_below_of, ce_way_down_1, cp_way_down_1, ce_way_down_2, cp_way_down_2, b_way_down, ce_lets_into_1, cp_lets_into_1, b_lets_into, b_bank_of, b_field_day, ce_day_of_1, cp_day_of_1, fl_day_of_2, ce_day_of_3, cp_day_of_3, ce_day_of_4, cp_day_of_4, b_day_of, wc__law_same_1, wl__law_same_1, b__law_same, b__law_mix, b__law_pick, fl__law_some_names_1, ce__law_some_names_2, cp__law_some_names_2, ce__law_some_names_3, cp__law_some_names_3, ce__law_some_names_4, cp__law_some_names_4, b__law_some_names, ce__law_terrace_1, cp__law_terrace_1, ce__law_terrace_2, cp__law_terrace_2, ce__law_terrace_3, cp__law_terrace_3, fl__law_terrace_4, fl__law_terrace_5, b__law_terrace, ce_stand_of_1, cp_stand_of_1, b_stand_of, ce__law_field_row_1, cp__law_field_row_1, ce__law_field_row_2, cp__law_field_row_2, ce__law_field_row_3, cp__law_field_row_3, ce__law_field_row_4, cp__law_field_row_4, b__law_field_row, ce__law_day_1, cp__law_day_1, b__law_day, ce__law_right_1, cp__law_right_1, ce__law_right_2, cp__law_right_2, ce__law_right_3, cp__law_right_3, fl__law_right_4, b__law_right, fl_law_1, b_law, sig__law_left, sig_below_of, sig_way_down, sig_lets_into, sig_bank_of, sig_field_day, sig_day_of, sig__law_same, sig__law_mix, sig__law_pick, sig__law_some_names, sig__law_terrace, sig_stand_of, sig__law_day, sig__law_right, sig_law, $xs,*])
local macro_rules | `(tactic| simp_arith) => `(tactic| try simp only [↓W_rt, ↓W_bd, ↓W_eC, ↓W_eV, ↓W_cN, ↓W_cA, ↓W_eP, ↓W_eM, ↓W_ckT, ↓W_eU, ↓W_eTup, ↓W_eLst, ↓W_eDk, ↓W_eDt, ↓W_mB, ↓W_mT, ↓W_mNot, ↓W_mAnd, ↓W_mOr, ↓W_eNot, ↓W_eAnd, ↓W_eOr, ↓W_eIf, ↓W_eTmp, ↓W_mTmp, ↓W_oN, ↓W_oS, ↓W_eSl, ↓W_eChain, ↓W_sNil, ↓W_sPass, ↓W_sBrk, ↓W_sCnt, ↓W_sRetN, ↓W_sSeq, ↓W_sExp, ↓W_sRet, ↓W_sIf, ↓W_sAsg, ↓W_gsN, ↓W_gsC, ↓W_gT, ↓W_gTl, ↓W_gS, ↓W_hb_im, ↓W_hb_fr, ↓W_hb_bo, ↓W_sPF, ↓W_sPF3, ↓W_gN_im, ↓W_gN_fr, ↓W_gN_bo, ↓W_frz_im, ↓W_frz_fr, ↓W_frz_bo, ↓W_frzs_nil, ↓W_frzs_cons, ↓W_frzA_nil, ↓W_frzA_t, ↓W_frzA_im, ↓W_frzA_bo, ↓W_callE, ↓W_eCallN, ↓W_eCallF, ↓WO_runF, ↓W_mR1, ↓W_mR2, ↓W_mLst, ↓W_mTup, ↓W_mEnum, ↓W_mEnumT, ↓W_mStr, ↓W_mZip, ↓W_sFor, ↓W_sWhl, ↓W_eComp, ↓W_eTupB, ↓W_sAug, ↓W_mZipM, ↓W_gT_Fld, ↓W_gT_Gt, ↓W_gT_Lt, ↓W_gT_bD, ↓W_gT_Dn, ↓W_gT_Rw, ↓Fld_i0, ↓Fld_i1, ↓Fld_i2, ↓Fld_i3, ↓Fld_i4, ↓Gt_i0, ↓Gt_i1, ↓Gt_i2, ↓Gt_i3, ↓Lt_i0, ↓Lt_i1, ↓Lt_i2, ↓bD_i0, ↓bD_i1, ↓Dn_i0, ↓Dn_i1, ↓Dn_i2, ↓Dn_i3, ↓Rw_i0, ↓Rw_i1, ↓Rw_i2, ↓Rw_i3, ↓Rw_i4, ↓Rw_i5, ↓Rw_i6, ↓Ter_i0, ↓Ter_i1, WO_map, WO_some, WO_none, WB_true, WB_false, WC_true, goes_nx, goes_ct, goes_bk, goes_rt, cut_nx, cut_bk, cut_ct, cut_rt, puts_nil, puts_cons, List.getElem?_cons_zero, List.getElem?_cons_succ, setO, frzO_eq, Option.map_some, putO, putC, List.set_cons_zero, List.set_cons_succ, mutAtD, PD.cnts, PD.cnt, Vl.hold, tyT, beq_self_eq_true, small_eq, lessL_eq, decide_true, decide_false, List.length_cons, List.length_nil, mkE, List.replicate_succ, List.replicate_zero, List.cons_append, List.nil_append, outE, retV, ioAll, ioIx, brIx, mutAt, updE, disj, nmOut, Vl.nm, D.nm, D.nmC, nms, Sl.mut, Sl.frz, D.atom, List.map_cons, List.map_nil, wipeE, unwipe, calm_em, calm_im, calm_none, List.all_cons, List.all_nil, Bool.and_true, Bool.true_and, Bool.and_self, Bool.or_true, Bool.or_self, Bool.true_or, Bool.false_or, Bool.or_false, Bool.not_true, Bool.not_false, Bool.and_false, Bool.false_and, List.isEmpty_nil, List.isEmpty_cons, List.nodup_cons, List.nodup_nil, List.not_mem_nil, not_false_eq_true, and_self, List.contains_nil, if_true, if_false, Bool.false_eq_true, ite_true, ite_false, rg1, rg2, seqL, seqT, zipO, addD, subD, mulD, divD, modD, powD, negD, ltD, leD, gtD, geD, lenD, absD, minD, maxD, PD.intD, ixD, isnD, appendD, reverseD, extendD, slD, setD, listD, tupleD, tupleBD, truD, at0, at1, at2, at3, at4, at5, at6, at7, sd0, sd1, sd2, sd3, ixN, Int.cast_ofNat_Int, Int.reduceEq, Int.reduceNe, Int.reduceLT, Int.reduceLE, Int.reduceNeg, Int.reduceAdd, Int.reduceSub, Int.reduceMul, Int.reducePow, Nat.reducePow, Int.reduceToNat, Int.reduceAbs, ne_eq, not_true_eq_false, Nat.zero_add, Nat.add_zero, Nat.reduceAdd, Nat.reduceSub, Nat.reduceLT, Nat.reduceLeDiff, Nat.reduceEqDiff, Nat.reduceMul, i63_0, i63_1, zipMO_lt, zipMO_tl, zipMO_ll, List.flatten_cons, List.flatten_nil, Nat.lt_irrefl, reduceCtorEq, Nat.zero_lt_succ, Nat.reduceSubDiff, Nat.sub_zero, Nat.sub_self, Bool.not_eq_true, Bool.not_eq_false, b__law_left, wc_below_of_1, wl_below_of_1, ce_below_of_2, cp_below_of_2, b_below_of, ce_way_down_1, cp_way_down_1, ce_way_down_2, cp_way_down_2, b_way_down, ce_lets_into_1, cp_lets_into_1, b_lets_into, b_bank_of, b_field_day, ce_day_of_1, cp_day_of_1, fl_day_of_2, ce_day_of_3, cp_day_of_3, ce_day_of_4, cp_day_of_4, b_day_of, wc__law_same_1, wl__law_same_1, b__law_same, b__law_mix, b__law_pick, fl__law_some_names_1, ce__law_some_names_2, cp__law_some_names_2, ce__law_some_names_3, cp__law_some_names_3, ce__law_some_names_4, cp__law_some_names_4, b__law_some_names, ce__law_terrace_1, cp__law_terrace_1, ce__law_terrace_2, cp__law_terrace_2, ce__law_terrace_3, cp__law_terrace_3, fl__law_terrace_4, fl__law_terrace_5, b__law_terrace, ce_stand_of_1, cp_stand_of_1, b_stand_of, ce__law_field_row_1, cp__law_field_row_1, ce__law_field_row_2, cp__law_field_row_2, ce__law_field_row_3, cp__law_field_row_3, ce__law_field_row_4, cp__law_field_row_4, b__law_field_row, ce__law_day_1, cp__law_day_1, b__law_day, ce__law_right_1, cp__law_right_1, ce__law_right_2, cp__law_right_2, ce__law_right_3, cp__law_right_3, fl__law_right_4, b__law_right, fl_law_1, b_law, sig__law_left, sig_below_of, sig_way_down, sig_lets_into, sig_bank_of, sig_field_day, sig_day_of, sig__law_same, sig__law_mix, sig__law_pick, sig__law_some_names, sig__law_terrace, sig_stand_of, sig__law_day, sig__law_right, sig_law])
theorem same_wp {d : D} {K : Vl × List D → Prop} (hp : d.pl = true) (hz : d.sz ≤ 900000) (q : K (.im (.bl true), [d, d])) : @WO _ (F__law_same.sem [d, d]) ⟨K⟩ := by
  rw [sem__law_same]
  simp_arith
  refine W_whl (fun m e => ∃ (ps : List D) (a b : Sl), m = szs ps ∧ pls ps = true ∧ m ≤ 900000 ∧ e = [.im d, .im d, .ow (.lst (ps.map fun x => .tup [x, x])), a, b]) ?_ (m := d.sz) ⟨[d], .em, .em, by simp [szs], by simp [pls, hp], hz, rfl⟩ (by omega)
  rintro m _ ⟨ps, a, b, rfl, h1, h2, rfl⟩
  rcases List.eq_nil_or_concat ps with rfl | ⟨l, x, rfl⟩
  · simp_arith [wc__law_same_1]
    exact q
  have hlen := len_szs (l ++ [x])
  rw [List.length_append, List.length_singleton] at hlen
  rw [List.concat_eq_append] at *
  have hx : x.pl = true := pls_all h1 x (List.mem_append_right _ (List.mem_singleton.mpr rfl))
  have hl : pls l = true := pls_of fun d hd => pls_all h1 d (List.mem_append_left _ hd)
  have hsz : szs (l ++ [x]) = szs l + x.sz := by rw [szs_app]; simp [szs]
  rw [hsz] at h2 hlen ⊢
  have hpos := sz_pos x
  have em : (l ++ [x]).map (fun x => D.tup [x, x]) = l.map (fun x => D.tup [x, x]) ++ [.tup [x, x]] := by rw [List.map_append]; rfl
  have hgt : (0 : Int) < ((l.map (fun x => D.tup [x, x]) ++ [D.tup [x, x]]).length : Int) := by rw [List.length_append, List.length_singleton]; omega
  rw [em]
  simp_arith [wc__law_same_1]
  refine WB_yes (by rw [List.length_append, List.length_singleton]; omega) ?_
  simp_arith [wb__law_same_1, pop_last]
  cases x with
  | non =>
    simp_arith [si13, si14, si15, sn3, neD_bl, neD_non]
    exact ⟨szs l, by omega, l, _, _, rfl, hl, by omega, rfl⟩
  | bl b' =>
    simp_arith [si17, si18, si19, si22, sn4, neD_bl, eq_self]
    exact ⟨szs l, by omega, l, _, _, rfl, hl, by omega, rfl⟩
  | int i =>
    simp_arith [si4, si10, si11, si12, si21, sn2, neD_bl, neD_int, eq_self]
    exact ⟨szs l, by omega, l, _, _, rfl, hl, by omega, rfl⟩
  | str y =>
    simp_arith [si3, si9, si16, si20, sn1, neD_bl, neD_str, eq_self]
    exact ⟨szs l, by omega, l, _, _, rfl, hl, by omega, rfl⟩
  | lst ds =>
    have hz : (D.lst ds).sz = szs ds + 1 := rfl
    have hd := len_szs ds
    have em2 : l.map (fun x => D.tup [x, x]) ++ ds.map (fun x => D.tup [x, x]) = (l ++ ds).map fun x => D.tup [x, x] := by rw [List.map_append]
    simp_arith [si1, si5, si6, neD_bl, neD_int, eq_self, lz_lst, zip_self, List.length_map]
    refine WO_ifd (by have := len_szs l; omega) ?_
    simp_arith [em2]
    exact ⟨szs (l ++ ds), by rw [szs_app]; omega, l ++ ds, _, _, rfl, pls_of fun d hd => by
      rcases List.mem_append.mp hd with hd | hd
      · exact pls_all hl d hd
      · exact pls_all (show pls ds = true from hx) d hd, by rw [szs_app]; omega, rfl⟩
  | tup ds =>
    have hz : (D.tup ds).sz = szs ds + 1 := rfl
    have hd := len_szs ds
    have em2 : l.map (fun x => D.tup [x, x]) ++ ds.map (fun x => D.tup [x, x]) = (l ++ ds).map fun x => D.tup [x, x] := by rw [List.map_append]
    simp_arith [si2, si7, si8, neD_bl, neD_int, eq_self, lz_tup, zip_self, List.length_map]
    refine WO_ifd (by have := len_szs l; omega) ?_
    simp_arith [em2]
    exact ⟨szs (l ++ ds), by rw [szs_app]; omega, l ++ ds, _, _, rfl, pls_of fun d hd => by
      rcases List.mem_append.mp hd with hd | hd
      · exact pls_all hl d hd
      · exact pls_all (show pls ds = true from hx) d hd, by rw [szs_app]; omega, rfl⟩
  | dk _ => cases hx
  | dt _ => cases hx
  | sc _ => cases hx
  | ty _ => cases hx
  | txt _ => cases hx
  | tp _ => cases hx
end L_k16
namespace L_k16
open PySem PySem.Spec PyProof.Rows L2 PD
local macro_rules | `(tactic| simp_arith [$xs,*]) => `(tactic| try simp only [↓W_rt, ↓W_bd, ↓W_eC, ↓W_eV, ↓W_cN, ↓W_cA, ↓W_eP, ↓W_eM, ↓W_ckT, ↓W_eU, ↓W_eTup, ↓W_eLst, ↓W_eDk, ↓W_eDt, ↓W_mB, ↓W_mT, ↓W_mNot, ↓W_mAnd, ↓W_mOr, ↓W_eNot, ↓W_eAnd, ↓W_eOr, ↓W_eIf, ↓W_eTmp, ↓W_mTmp, ↓W_oN, ↓W_oS, ↓W_eSl, ↓W_eChain, ↓W_sNil, ↓W_sPass, ↓W_sBrk, ↓W_sCnt, ↓W_sRetN, ↓W_sSeq, ↓W_sExp, ↓W_sRet, ↓W_sIf, ↓W_sAsg, ↓W_gsN, ↓W_gsC, ↓W_gT, ↓W_gTl, ↓W_gS, ↓W_hb_im, ↓W_hb_fr, ↓W_hb_bo, ↓W_sPF, ↓W_sPF3, ↓W_gN_im, ↓W_gN_fr, ↓W_gN_bo, ↓W_frz_im, ↓W_frz_fr, ↓W_frz_bo, ↓W_frzs_nil, ↓W_frzs_cons, ↓W_frzA_nil, ↓W_frzA_t, ↓W_frzA_im, ↓W_frzA_bo, ↓W_callE, ↓W_eCallN, ↓W_eCallF, ↓WO_runF, ↓W_mR1, ↓W_mR2, ↓W_mLst, ↓W_mTup, ↓W_mEnum, ↓W_mEnumT, ↓W_mStr, ↓W_mZip, ↓W_sFor, ↓W_sWhl, ↓W_eComp, ↓W_eTupB, ↓W_sAug, ↓W_mZipM, ↓W_gT_Fld, ↓W_gT_Gt, ↓W_gT_Lt, ↓W_gT_bD, ↓W_gT_Dn, ↓W_gT_Rw, ↓Fld_i0, ↓Fld_i1, ↓Fld_i2, ↓Fld_i3, ↓Fld_i4, ↓Gt_i0, ↓Gt_i1, ↓Gt_i2, ↓Gt_i3, ↓Lt_i0, ↓Lt_i1, ↓Lt_i2, ↓bD_i0, ↓bD_i1, ↓Dn_i0, ↓Dn_i1, ↓Dn_i2, ↓Dn_i3, ↓Rw_i0, ↓Rw_i1, ↓Rw_i2, ↓Rw_i3, ↓Rw_i4, ↓Rw_i5, ↓Rw_i6, ↓Ter_i0, ↓Ter_i1, WO_map, WO_some, WO_none, WB_true, WB_false, WC_true, goes_nx, goes_ct, goes_bk, goes_rt, cut_nx, cut_bk, cut_ct, cut_rt, puts_nil, puts_cons, List.getElem?_cons_zero, List.getElem?_cons_succ, setO, frzO_eq, Option.map_some, putO, putC, List.set_cons_zero, List.set_cons_succ, mutAtD, PD.cnts, PD.cnt, Vl.hold, tyT, beq_self_eq_true, small_eq, lessL_eq, decide_true, decide_false, List.length_cons, List.length_nil, mkE, List.replicate_succ, List.replicate_zero, List.cons_append, List.nil_append, outE, retV, ioAll, ioIx, brIx, mutAt, updE, disj, nmOut, Vl.nm, D.nm, D.nmC, nms, Sl.mut, Sl.frz, D.atom, List.map_cons, List.map_nil, wipeE, unwipe, calm_em, calm_im, calm_none, List.all_cons, List.all_nil, Bool.and_true, Bool.true_and, Bool.and_self, Bool.or_true, Bool.or_self, Bool.true_or, Bool.false_or, Bool.or_false, Bool.not_true, Bool.not_false, Bool.and_false, Bool.false_and, List.isEmpty_nil, List.isEmpty_cons, List.nodup_cons, List.nodup_nil, List.not_mem_nil, not_false_eq_true, and_self, List.contains_nil, if_true, if_false, Bool.false_eq_true, ite_true, ite_false, rg1, rg2, seqL, seqT, zipO, addD, subD, mulD, divD, modD, powD, negD, ltD, leD, gtD, geD, lenD, absD, minD, maxD, PD.intD, ixD, isnD, appendD, reverseD, extendD, slD, setD, listD, tupleD, tupleBD, truD, at0, at1, at2, at3, at4, at5, at6, at7, sd0, sd1, sd2, sd3, ixN, Int.cast_ofNat_Int, Int.reduceEq, Int.reduceNe, Int.reduceLT, Int.reduceLE, Int.reduceNeg, Int.reduceAdd, Int.reduceSub, Int.reduceMul, Int.reducePow, Nat.reducePow, Int.reduceToNat, Int.reduceAbs, ne_eq, not_true_eq_false, Nat.zero_add, Nat.add_zero, Nat.reduceAdd, Nat.reduceSub, Nat.reduceLT, Nat.reduceLeDiff, Nat.reduceEqDiff, Nat.reduceMul, i63_0, i63_1, zipMO_lt, zipMO_tl, zipMO_ll, List.flatten_cons, List.flatten_nil, Nat.lt_irrefl, reduceCtorEq, Nat.zero_lt_succ, Nat.reduceSubDiff, Nat.sub_zero, Nat.sub_self, Bool.not_eq_true, Bool.not_eq_false, b__law_left, wc_below_of_1, wl_below_of_1, ce_below_of_2, cp_below_of_2, b_below_of, ce_way_down_1, cp_way_down_1, ce_way_down_2, cp_way_down_2, b_way_down, ce_lets_into_1, cp_lets_into_1, b_lets_into, b_bank_of, b_field_day, ce_day_of_1, cp_day_of_1, fl_day_of_2, ce_day_of_3, cp_day_of_3, ce_day_of_4, cp_day_of_4, b_day_of, wc__law_same_1, wl__law_same_1, b__law_same, b__law_mix, b__law_pick, fl__law_some_names_1, ce__law_some_names_2, cp__law_some_names_2, ce__law_some_names_3, cp__law_some_names_3, ce__law_some_names_4, cp__law_some_names_4, b__law_some_names, ce__law_terrace_1, cp__law_terrace_1, ce__law_terrace_2, cp__law_terrace_2, ce__law_terrace_3, cp__law_terrace_3, fl__law_terrace_4, fl__law_terrace_5, b__law_terrace, ce_stand_of_1, cp_stand_of_1, b_stand_of, ce__law_field_row_1, cp__law_field_row_1, ce__law_field_row_2, cp__law_field_row_2, ce__law_field_row_3, cp__law_field_row_3, ce__law_field_row_4, cp__law_field_row_4, b__law_field_row, ce__law_day_1, cp__law_day_1, b__law_day, ce__law_right_1, cp__law_right_1, ce__law_right_2, cp__law_right_2, ce__law_right_3, cp__law_right_3, fl__law_right_4, b__law_right, fl_law_1, b_law, sig__law_left, sig_below_of, sig_way_down, sig_lets_into, sig_bank_of, sig_field_day, sig_day_of, sig__law_same, sig__law_mix, sig__law_pick, sig__law_some_names, sig__law_terrace, sig_stand_of, sig__law_day, sig__law_right, sig_law, $xs,*])
local macro_rules | `(tactic| simp_arith) => `(tactic| try simp only [↓W_rt, ↓W_bd, ↓W_eC, ↓W_eV, ↓W_cN, ↓W_cA, ↓W_eP, ↓W_eM, ↓W_ckT, ↓W_eU, ↓W_eTup, ↓W_eLst, ↓W_eDk, ↓W_eDt, ↓W_mB, ↓W_mT, ↓W_mNot, ↓W_mAnd, ↓W_mOr, ↓W_eNot, ↓W_eAnd, ↓W_eOr, ↓W_eIf, ↓W_eTmp, ↓W_mTmp, ↓W_oN, ↓W_oS, ↓W_eSl, ↓W_eChain, ↓W_sNil, ↓W_sPass, ↓W_sBrk, ↓W_sCnt, ↓W_sRetN, ↓W_sSeq, ↓W_sExp, ↓W_sRet, ↓W_sIf, ↓W_sAsg, ↓W_gsN, ↓W_gsC, ↓W_gT, ↓W_gTl, ↓W_gS, ↓W_hb_im, ↓W_hb_fr, ↓W_hb_bo, ↓W_sPF, ↓W_sPF3, ↓W_gN_im, ↓W_gN_fr, ↓W_gN_bo, ↓W_frz_im, ↓W_frz_fr, ↓W_frz_bo, ↓W_frzs_nil, ↓W_frzs_cons, ↓W_frzA_nil, ↓W_frzA_t, ↓W_frzA_im, ↓W_frzA_bo, ↓W_callE, ↓W_eCallN, ↓W_eCallF, ↓WO_runF, ↓W_mR1, ↓W_mR2, ↓W_mLst, ↓W_mTup, ↓W_mEnum, ↓W_mEnumT, ↓W_mStr, ↓W_mZip, ↓W_sFor, ↓W_sWhl, ↓W_eComp, ↓W_eTupB, ↓W_sAug, ↓W_mZipM, ↓W_gT_Fld, ↓W_gT_Gt, ↓W_gT_Lt, ↓W_gT_bD, ↓W_gT_Dn, ↓W_gT_Rw, ↓Fld_i0, ↓Fld_i1, ↓Fld_i2, ↓Fld_i3, ↓Fld_i4, ↓Gt_i0, ↓Gt_i1, ↓Gt_i2, ↓Gt_i3, ↓Lt_i0, ↓Lt_i1, ↓Lt_i2, ↓bD_i0, ↓bD_i1, ↓Dn_i0, ↓Dn_i1, ↓Dn_i2, ↓Dn_i3, ↓Rw_i0, ↓Rw_i1, ↓Rw_i2, ↓Rw_i3, ↓Rw_i4, ↓Rw_i5, ↓Rw_i6, ↓Ter_i0, ↓Ter_i1, WO_map, WO_some, WO_none, WB_true, WB_false, WC_true, goes_nx, goes_ct, goes_bk, goes_rt, cut_nx, cut_bk, cut_ct, cut_rt, puts_nil, puts_cons, List.getElem?_cons_zero, List.getElem?_cons_succ, setO, frzO_eq, Option.map_some, putO, putC, List.set_cons_zero, List.set_cons_succ, mutAtD, PD.cnts, PD.cnt, Vl.hold, tyT, beq_self_eq_true, small_eq, lessL_eq, decide_true, decide_false, List.length_cons, List.length_nil, mkE, List.replicate_succ, List.replicate_zero, List.cons_append, List.nil_append, outE, retV, ioAll, ioIx, brIx, mutAt, updE, disj, nmOut, Vl.nm, D.nm, D.nmC, nms, Sl.mut, Sl.frz, D.atom, List.map_cons, List.map_nil, wipeE, unwipe, calm_em, calm_im, calm_none, List.all_cons, List.all_nil, Bool.and_true, Bool.true_and, Bool.and_self, Bool.or_true, Bool.or_self, Bool.true_or, Bool.false_or, Bool.or_false, Bool.not_true, Bool.not_false, Bool.and_false, Bool.false_and, List.isEmpty_nil, List.isEmpty_cons, List.nodup_cons, List.nodup_nil, List.not_mem_nil, not_false_eq_true, and_self, List.contains_nil, if_true, if_false, Bool.false_eq_true, ite_true, ite_false, rg1, rg2, seqL, seqT, zipO, addD, subD, mulD, divD, modD, powD, negD, ltD, leD, gtD, geD, lenD, absD, minD, maxD, PD.intD, ixD, isnD, appendD, reverseD, extendD, slD, setD, listD, tupleD, tupleBD, truD, at0, at1, at2, at3, at4, at5, at6, at7, sd0, sd1, sd2, sd3, ixN, Int.cast_ofNat_Int, Int.reduceEq, Int.reduceNe, Int.reduceLT, Int.reduceLE, Int.reduceNeg, Int.reduceAdd, Int.reduceSub, Int.reduceMul, Int.reducePow, Nat.reducePow, Int.reduceToNat, Int.reduceAbs, ne_eq, not_true_eq_false, Nat.zero_add, Nat.add_zero, Nat.reduceAdd, Nat.reduceSub, Nat.reduceLT, Nat.reduceLeDiff, Nat.reduceEqDiff, Nat.reduceMul, i63_0, i63_1, zipMO_lt, zipMO_tl, zipMO_ll, List.flatten_cons, List.flatten_nil, Nat.lt_irrefl, reduceCtorEq, Nat.zero_lt_succ, Nat.reduceSubDiff, Nat.sub_zero, Nat.sub_self, Bool.not_eq_true, Bool.not_eq_false, b__law_left, wc_below_of_1, wl_below_of_1, ce_below_of_2, cp_below_of_2, b_below_of, ce_way_down_1, cp_way_down_1, ce_way_down_2, cp_way_down_2, b_way_down, ce_lets_into_1, cp_lets_into_1, b_lets_into, b_bank_of, b_field_day, ce_day_of_1, cp_day_of_1, fl_day_of_2, ce_day_of_3, cp_day_of_3, ce_day_of_4, cp_day_of_4, b_day_of, wc__law_same_1, wl__law_same_1, b__law_same, b__law_mix, b__law_pick, fl__law_some_names_1, ce__law_some_names_2, cp__law_some_names_2, ce__law_some_names_3, cp__law_some_names_3, ce__law_some_names_4, cp__law_some_names_4, b__law_some_names, ce__law_terrace_1, cp__law_terrace_1, ce__law_terrace_2, cp__law_terrace_2, ce__law_terrace_3, cp__law_terrace_3, fl__law_terrace_4, fl__law_terrace_5, b__law_terrace, ce_stand_of_1, cp_stand_of_1, b_stand_of, ce__law_field_row_1, cp__law_field_row_1, ce__law_field_row_2, cp__law_field_row_2, ce__law_field_row_3, cp__law_field_row_3, ce__law_field_row_4, cp__law_field_row_4, b__law_field_row, ce__law_day_1, cp__law_day_1, b__law_day, ce__law_right_1, cp__law_right_1, ce__law_right_2, cp__law_right_2, ce__law_right_3, cp__law_right_3, fl__law_right_4, b__law_right, fl_law_1, b_law, sig__law_left, sig_below_of, sig_way_down, sig_lets_into, sig_bank_of, sig_field_day, sig_day_of, sig__law_same, sig__law_mix, sig__law_pick, sig__law_some_names, sig__law_terrace, sig_stand_of, sig__law_day, sig__law_right, sig_law])
theorem sig_frow (n : Nat) : (F__law_field_row n).sig = [false, false, false, false, true] := by cases n <;> rfl
theorem sem_frow (k : Nat) (ds : List D) : (F__law_field_row (k + 1)).sem ds = runF [false, false, false, false, true] 21 (b__law_field_row (F__law_field_row k)) ds := rfl
def PsOk (m : Nat) (ps : List Nat) : Prop := ps.Nodup ∧ ∀ p ∈ ps, p < m
theorem frow_wp {fl : List Fld} {g : D} {st : List Int} {n : Dn} {rs : List Rw} (ht : TerrOk fl) (f8 : fl.length ≤ 8) (hst : st.length = fl.length) (hn : n.ok) (hs : Sol fl st n rs) {rk : Str → Nat} (hrk : ∀ f ∈ fl, rk f.nm < fl.length ∧ (f.bl = noS ∨ ∃ g ∈ fl, g.nm = f.bl ∧ rk f.bl < rk f.nm)) :
    ∀ (k i : Nat) (f : Fld) (ps : List Nat) (K : Vl × List D → Prop), fl[i]? = some f → fl.length - rk f.nm ≤ k → PsOk fl.length ps →
      (∀ ps', PsOk fl.length ps' → K (.im ((rs[i]?).getD zeroR).d, [.tup [.tup (fl.map Fld.d), g], .tup (st.map D.int), n.d, .int (i : Int), .dk (ps'.map (kvR rs))])) →
      @WO _ ((F__law_field_row k).sem [.tup [.tup (fl.map Fld.d), g], .tup (st.map D.int), n.d, .int (i : Int), .dk (ps.map (kvR rs))]) ⟨K⟩
  | 0, i, f, ps, K, hf, hk, _, _ => by
    have := (hrk f (List.mem_of_getElem? hf)).1
    omega
  | k + 1, i, f, ps, K, hf, hk, hps, q => by
    have sg := sig_frow k
    have hrl := hs.len
    have hil := lt_at hf
    obtain ⟨w, hw, _⟩ := at_of (l := st) (i := i) (by omega)
    obtain ⟨r, hr, _⟩ := at_of (l := rs) (i := i) (by omega)
    have hrow := hs.row i f w r hf hw hr
    have hgd : ((rs[i]?).getD zeroR) = r := by rw [hr]; rfl
    rw [hgd] at q
    have x1 : ixD [.tup (fl.map Fld.d), .int (i : Int)] = some (.im f.d) := by
      show (L2.atI (fl.map Fld.d) (i : Int)).map Vl.im = _
      rw [atI_map Fld.d hf]
      rfl
    have x3 : ixD [.tup (st.map D.int), .int (i : Int)] = some (.im (.int w)) := by
      show (L2.atI (st.map D.int) (i : Int)).map Vl.im = _
      rw [atI_map D.int hw]
      rfl
    have hni : ∀ qs : List Nat, notInD [.int (i : Int), .dk (qs.map (kvR rs))] = some (.im (.bl (!(getK (qs.map (kvR rs)) (.inl (i : Int))).isSome))) := fun _ => rfl
    have hix : ∀ qs : List Nat, i ∈ qs → ixD [.dk (qs.map (kvR rs)), .int (i : Int)] = some (.im r.d) := fun qs h => by
      show (getK (qs.map (kvR rs)) (.inl (i : Int))).map Vl.im = _
      rw [kvR_get h, hgd]
      rfl
    rw [sem_frow]
    by_cases hin : i ∈ ps
    · have h1 := hni ps
      rw [kvR_get hin] at h1
      have h2 := hix ps hin
      simp_arith [h1, Option.isSome_some, ↓h2]
      exact q ps hps
    · have h1 := hni ps
      rw [getK_none (kvR_none hin)] at h1
      have hlen := nodup_lt fl.length
      simp_arith [h1, Option.isSome_none, ↓x1, enum_map]
      refine W_comp_fltA (fun p : Fld × Nat => .tup [.int (p.2 : Int), p.1.d]) (fun p => decide (p.1.bl = f.nm)) (fun p => .int (p.2 : Int)) (fun p hp => ?_) ?_
      · simp_arith [eqD_str]
        refine WB_cases' (fun h1 => ?_) (fun h1 => ?_)
        · simp_arith
          simp [h1, wipeE]
        · simp_arith
          simp [h1, wipeE]
      have c1 : ((fl.zipIdx.filter fun p => decide (p.1.bl = f.nm)).map fun p => D.int (p.2 : Int)).length ≤ 8 := by
        rw [List.length_map]
        have := List.length_filter_le (fun p : Fld × Nat => decide (p.1.bl = f.nm)) fl.zipIdx
        rw [List.length_zipIdx] at this
        omega
      simp_arith
      refine WC_dec (by omega) ?_
      simp_arith
      generalize hab : fl.zipIdx.filter (fun p => decide (p.1.bl = f.nm)) = ab at *
      refine W_compE (fun e0 j ys e => ∃ ps', ys = (ab.take j).map (fun p => D.int ((rs[p.2]?).getD zeroR).rn) ∧ PsOk fl.length ps' ∧ e = puts e0 [(4, .io 4 (.dk (ps'.map (kvR rs)))), (10, .im (.lst (ab.map fun p => D.int (p.2 : Int))))]) ⟨ps, rfl, hps, rfl⟩ ?_ ?_
      · rintro j d ys _ hd ⟨ps', rfl, hps', rfl⟩
        obtain ⟨p, hpj, hpm, rfl⟩ := at_map hd
        have hpf : p ∈ fl.zipIdx ∧ p.1.bl = f.nm := by
          rw [← hab] at hpm
          have := List.mem_filter.mp hpm
          exact ⟨this.1, by simpa using this.2⟩
        have hp2 := zipIdx_at hpf.1
        have hpk : fl.length - rk p.1.nm ≤ k := by
          have hpm' := List.mem_of_getElem? hp2
          rcases (hrk p.1 hpm').2 with b | ⟨_, _, _, b⟩
          · exact absurd (hpf.2.symm.trans b) (ht.ok f (List.mem_of_getElem? hf)).ne
          · rw [hpf.2] at b
            have := (hrk p.1 hpm').1
            omega
        obtain ⟨rp, hrp, _⟩ := at_of (l := rs) (i := p.2) (by rw [hrl]; exact lt_at hp2)
        simp_arith [sg]
        refine frow_wp ht f8 hst hn hs hrk k p.2 p.1 ps' _ hp2 hpk hps' fun ps2 hps2 => ?_
        have em : (ab.take j).map (fun p => D.int ((rs[p.2]?).getD zeroR).rn) ++ [D.int ((rs[p.2]?).getD zeroR).rn] = (ab.take (j + 1)).map (fun p => D.int ((rs[p.2]?).getD zeroR).rn) := by
          rw [take_snoc hpj, List.map_append]
          rfl
        simp_arith [sg]
        rw [em]
        exact ⟨ps2, rfl, hps2, rfl⟩
      rintro ys _ ⟨ps', rfl, hps', rfl⟩
      have et : ab.take (ab.map fun p => D.int (p.2 : Int)).length = ab := by rw [List.length_map, List.take_length]
      rw [et]
      have c2 := sumD_map (fun p : Fld × Nat => ((rs[p.2]?).getD zeroR).rn) ab
      have c3 := came_idx0 (x := f.nm) hrl
      rw [hab] at c3
      rw [List.length_map] at c1
      have hls := hn.ll
      have hbs := hn.bl
      simp_arith [List.length_map]
      refine WC_dec (by omega) ?_
      simp_arith [c2, c3]
      refine W_comp_fltA Lt.d (fun l => decide (l.f = f.nm)) (fun l => .int l.m) (fun l hl => ?_) ?_
      · simp_arith [eqD_str]
        refine WB_cases' (fun h1 => ?_) (fun h1 => ?_)
        · simp_arith
          simp [h1, wipeE]
        · simp_arith
          simp [h1, wipeE]
      have d1 : ((n.ls.filter fun l => decide (l.f = f.nm)).map fun l => D.int l.m).length ≤ 40 := by
        rw [List.length_map]
        have := List.length_filter_le (fun l => decide (l.f = f.nm)) n.ls
        omega
      have d2 := sumD_map Lt.m (n.ls.filter fun l => decide (l.f = f.nm))
      have d3 : ((n.ls.filter fun l => decide (l.f = f.nm)).map Lt.m).sum = n.into f.nm := rfl
      simp_arith
      refine WC_dec (by omega) ?_
      simp_arith [d2, d3]
      refine W_comp_fltA bD (fun b => decide (b.1 = f.nm)) (fun b => .int b.2) (fun b hb => ?_) ?_
      · simp_arith [eqD_str]
        refine WB_cases' (fun h1 => ?_) (fun h1 => ?_)
        · simp_arith
          simp [h1, wipeE]
        · simp_arith
          simp [h1, wipeE]
      have e1 : ((n.bs.filter fun b => decide (b.1 = f.nm)).map fun b => D.int b.2).length ≤ 8 := by
        rw [List.length_map]
        have := List.length_filter_le (fun b : Str × Int => decide (b.1 = f.nm)) n.bs
        omega
      have e2 := lvl_head n f
      simp_arith
      refine WC_dec (by omega) ?_
      simp_arith
      refine WO_ifd (by omega) ?_
      simp_arith [e2, ↓x3]
      obtain ⟨W', hW⟩ : ∃ W', W' = w + n.ra + n.into f.nm + cameOf fl rs f.nm := ⟨_, rfl⟩
      obtain ⟨l1, l2, l3, l4, l5, l6, l7⟩ := row_lin hrow hW
      have r1 : r.ra = n.ra := by rw [hrow]; rfl
      have r2 : r.le = n.into f.nm := by rw [hrow]; rfl
      have r3 : r.ca = cameOf fl rs f.nm := by rw [hrow]; rfl
      have hw0 : w + n.ra + n.into f.nm + cameOf fl rs f.nm = W' := hW.symm
      have i' : i ∉ ps' ∨ i ∈ ps' := (Decidable.em (i ∈ ps')).symm
      have sd : ∀ (es : List (Key × D)) (v : D), setDk (.dk es) (.int (i : Int)) v = if lessL es.length = true then some (.dk (putD es (.inl (i : Int)) v)) else none := fun _ _ => rfl
      have hpl := hlen ps' hps'.1 hps'.2
      have fin : ∃ ps2, PsOk fl.length ps2 ∧ putD (ps'.map (kvR rs)) (.inl (i : Int)) r.d = ps2.map (kvR rs) ∧ i ∈ ps2 := by
        by_cases h : i ∈ ps'
        · refine ⟨ps', hps', ?_, h⟩
          unfold putD
          rw [if_pos (List.any_eq_true.mpr ⟨kvR rs i, List.mem_map.mpr ⟨i, h, rfl⟩, by simp [kvR]⟩), List.map_map]
          refine List.map_congr_left fun p hp => ?_
          show (if (kvR rs p).1 = .inl (i : Int) then ((kvR rs p).1, r.d) else kvR rs p) = kvR rs p
          split
          · rename_i e
            have e : (p : Int) = i := by simpa [kvR] using e
            have : p = i := by omega
            subst this
            unfold kvR
            rw [hgd]
          · rfl
        · refine ⟨ps' ++ [i], ⟨?_, fun p hp => ?_⟩, ?_, List.mem_append_right _ (List.mem_singleton.mpr rfl)⟩
          · refine List.nodup_append.mpr ⟨hps'.1, by simp, fun a ha b hb e => ?_⟩
            rw [List.mem_singleton.mp hb] at e
            exact h (e ▸ ha)
          · rcases List.mem_append.mp hp with hp | hp
            · exact hps'.2 p hp
            · rw [List.mem_singleton.mp hp]
              exact hil
          · rw [putD_new (kvR_none h), List.map_append]
            show _ = _ ++ [kvR rs i]
            unfold kvR
            rw [hgd]
      obtain ⟨ps2, g1, g2, g3⟩ := fin
      have g4 := hix ps2 g3
      simp_arith [hw0]
      refine WB_cases' (fun k1 => ?_) (fun k1 => ?_) <;> simp_arith <;>
      refine WB_cases' (fun k2 => ?_) (fun k2 => ?_) <;> simp_arith <;>
      refine WB_cases' (fun k3 => ?_) (fun k3 => ?_) <;> simp_arith <;>
      (rw [Rw.d_eq (r := r) (by omega) (by omega) (by omega) (by omega) (by omega) (by omega) (by omega)]
       simp_arith [sd, List.length_map]
       refine WO_ifd (by omega) ?_
       simp_arith [g2, ↓g4]
       exact q ps2 g1)
theorem lday_wp {fl : List Fld} {g : D} {st : List Int} {n : Dn} {K : Vl × List D → Prop} (ht : TerrOk fl) (f8 : fl.length ≤ 8) (hst : st.length = fl.length) (hn : n.ok)
    (q : K (.fr (.lst ((dayR fl st n).map Rw.d)), [.tup [.tup (fl.map Fld.d), g], .tup (st.map D.int), n.d])) : @WO _ (F__law_day.sem [.tup [.tup (fl.map Fld.d), g], .tup (st.map D.int), n.d]) ⟨K⟩ := by
  have hs := dayR_sol (n := n) ht hst
  have hrl := hs.len
  generalize dayR fl st n = rs at *
  obtain ⟨rk, hrk⟩ := ht.dag
  rw [sem__law_day]
  simp_arith [List.length_map]
  refine WO_if (by exact in62_small (by omega) (by omega)) ?_
  simp_arith
  refine W_compE (fun e0 j ys e => ∃ ps, ys = (rs.take j).map Rw.d ∧ PsOk fl.length ps ∧ e = puts e0 [(3, .ow (.dk (ps.map (kvR rs))))]) ⟨[], rfl, ⟨List.nodup_nil, fun _ h => by simp at h⟩, rfl⟩ ?_ ?_
  · rintro j d ys _ hd ⟨ps, rfl, hps, rfl⟩
    obtain ⟨hj, rfl⟩ := rng_get hd
    have hj : j < fl.length := by omega
    obtain ⟨f, hf, hfm⟩ := at_of hj
    obtain ⟨r, hr, _⟩ := at_of (l := rs) (i := j) (by omega)
    have hgd : ((rs[j]?).getD zeroR) = r := by rw [hr]; rfl
    have hrk1 := (hrk f hfm).1
    simp_arith [Int.zero_add, sig_frow]
    refine frow_wp ht f8 hst hn hs hrk 9 j f ps _ hf (by omega) hps fun ps2 hps2 => ?_
    have em : (rs.take j).map Rw.d ++ [r.d] = (rs.take (j + 1)).map Rw.d := by
      rw [take_snoc hr, List.map_append]
      rfl
    simp_arith [sig_frow, hgd, em]
    exact ⟨ps2, by first | rfl | trivial, hps2, by first | rfl | trivial⟩
  · rintro ys _ ⟨ps, rfl, hps, rfl⟩
    have et : rs.take (rngD 0 (fl.length : Int).toNat).length = rs := by
      rw [rng_len, List.take_of_length_le (by omega)]
    rw [et]
    simp_arith [List.length_map]
    refine WC_dec (by omega) ?_
    simp_arith
    exact q
end L_k16
namespace L_k16
open PySem PySem.Spec PyProof.Rows L2 PD
local macro_rules | `(tactic| simp_arith [$xs,*]) => `(tactic| try simp only [↓W_rt, ↓W_bd, ↓W_eC, ↓W_eV, ↓W_cN, ↓W_cA, ↓W_eP, ↓W_eM, ↓W_ckT, ↓W_eU, ↓W_eTup, ↓W_eLst, ↓W_eDk, ↓W_eDt, ↓W_mB, ↓W_mT, ↓W_mNot, ↓W_mAnd, ↓W_mOr, ↓W_eNot, ↓W_eAnd, ↓W_eOr, ↓W_eIf, ↓W_eTmp, ↓W_mTmp, ↓W_oN, ↓W_oS, ↓W_eSl, ↓W_eChain, ↓W_sNil, ↓W_sPass, ↓W_sBrk, ↓W_sCnt, ↓W_sRetN, ↓W_sSeq, ↓W_sExp, ↓W_sRet, ↓W_sIf, ↓W_sAsg, ↓W_gsN, ↓W_gsC, ↓W_gT, ↓W_gTl, ↓W_gS, ↓W_hb_im, ↓W_hb_fr, ↓W_hb_bo, ↓W_sPF, ↓W_sPF3, ↓W_gN_im, ↓W_gN_fr, ↓W_gN_bo, ↓W_frz_im, ↓W_frz_fr, ↓W_frz_bo, ↓W_frzs_nil, ↓W_frzs_cons, ↓W_frzA_nil, ↓W_frzA_t, ↓W_frzA_im, ↓W_frzA_bo, ↓W_callE, ↓W_eCallN, ↓W_eCallF, ↓WO_runF, ↓W_mR1, ↓W_mR2, ↓W_mLst, ↓W_mTup, ↓W_mEnum, ↓W_mEnumT, ↓W_mStr, ↓W_mZip, ↓W_sFor, ↓W_sWhl, ↓W_eComp, ↓W_eTupB, ↓W_sAug, ↓W_mZipM, ↓Rw_to4, ↓Rw_from4, ↓W_gT_Fld, ↓W_gT_Gt, ↓W_gT_Lt, ↓W_gT_bD, ↓W_gT_Dn, ↓W_gT_Rw, ↓Fld_i0, ↓Fld_i1, ↓Fld_i2, ↓Fld_i3, ↓Fld_i4, ↓Gt_i0, ↓Gt_i1, ↓Gt_i2, ↓Gt_i3, ↓Lt_i0, ↓Lt_i1, ↓Lt_i2, ↓bD_i0, ↓bD_i1, ↓Dn_i0, ↓Dn_i1, ↓Dn_i2, ↓Dn_i3, ↓Rw_i0, ↓Rw_i1, ↓Rw_i2, ↓Rw_i3, ↓Rw_i4, ↓Rw_i5, ↓Rw_i6, ↓Ter_i0, ↓Ter_i1, WO_map, WO_some, WO_none, WB_true, WB_false, WC_true, goes_nx, goes_ct, goes_bk, goes_rt, cut_nx, cut_bk, cut_ct, cut_rt, puts_nil, puts_cons, List.getElem?_cons_zero, List.getElem?_cons_succ, setO, frzO_eq, Option.map_some, putO, putC, List.set_cons_zero, List.set_cons_succ, mutAtD, PD.cnts, PD.cnt, Vl.hold, tyT, beq_self_eq_true, small_eq, lessL_eq, decide_true, decide_false, List.length_cons, List.length_nil, mkE, List.replicate_succ, List.replicate_zero, List.cons_append, List.nil_append, outE, retV, ioAll, ioIx, brIx, mutAt, updE, disj, nmOut, Vl.nm, D.nm, D.nmC, nms, Sl.mut, Sl.frz, D.atom, List.map_cons, List.map_nil, wipeE, unwipe, calm_em, calm_im, calm_none, List.all_cons, List.all_nil, Bool.and_true, Bool.true_and, Bool.and_self, Bool.or_true, Bool.or_self, Bool.true_or, Bool.false_or, Bool.or_false, Bool.not_true, Bool.not_false, Bool.and_false, Bool.false_and, List.isEmpty_nil, List.isEmpty_cons, List.nodup_cons, List.nodup_nil, List.not_mem_nil, not_false_eq_true, and_self, List.contains_nil, if_true, if_false, Bool.false_eq_true, ite_true, ite_false, rg1, rg2, seqL, seqT, zipO, addD, subD, mulD, divD, modD, powD, negD, ltD, leD, gtD, geD, lenD, absD, minD, maxD, PD.intD, ixD, isnD, appendD, reverseD, extendD, slD, setD, listD, tupleD, tupleBD, truD, at0, at1, at2, at3, at4, at5, at6, at7, sd0, sd1, sd2, sd3, ixN, Int.cast_ofNat_Int, Int.reduceEq, Int.reduceNe, Int.reduceLT, Int.reduceLE, Int.reduceNeg, Int.reduceAdd, Int.reduceSub, Int.reduceMul, Int.reducePow, Nat.reducePow, Int.reduceToNat, Int.reduceAbs, ne_eq, not_true_eq_false, Nat.zero_add, Nat.add_zero, Nat.reduceAdd, Nat.reduceSub, Nat.reduceLT, Nat.reduceLeDiff, Nat.reduceEqDiff, Nat.reduceMul, i63_0, i63_1, zipMO_lt, zipMO_tl, zipMO_ll, List.flatten_cons, List.flatten_nil, Nat.lt_irrefl, reduceCtorEq, Nat.zero_lt_succ, Nat.reduceSubDiff, Nat.sub_zero, Nat.sub_self, Bool.not_eq_true, Bool.not_eq_false, b__law_left, wc_below_of_1, wl_below_of_1, ce_below_of_2, cp_below_of_2, b_below_of, ce_way_down_1, cp_way_down_1, ce_way_down_2, cp_way_down_2, b_way_down, ce_lets_into_1, cp_lets_into_1, b_lets_into, b_bank_of, b_field_day, ce_day_of_1, cp_day_of_1, fl_day_of_2, ce_day_of_3, cp_day_of_3, ce_day_of_4, cp_day_of_4, b_day_of, wc__law_same_1, wl__law_same_1, b__law_same, b__law_mix, b__law_pick, fl__law_some_names_1, ce__law_some_names_2, cp__law_some_names_2, ce__law_some_names_3, cp__law_some_names_3, ce__law_some_names_4, cp__law_some_names_4, b__law_some_names, ce__law_terrace_1, cp__law_terrace_1, ce__law_terrace_2, cp__law_terrace_2, ce__law_terrace_3, cp__law_terrace_3, fl__law_terrace_4, fl__law_terrace_5, b__law_terrace, ce_stand_of_1, cp_stand_of_1, b_stand_of, ce__law_field_row_1, cp__law_field_row_1, ce__law_field_row_2, cp__law_field_row_2, ce__law_field_row_3, cp__law_field_row_3, ce__law_field_row_4, cp__law_field_row_4, b__law_field_row, ce__law_day_1, cp__law_day_1, b__law_day, ce__law_right_1, cp__law_right_1, ce__law_right_2, cp__law_right_2, ce__law_right_3, cp__law_right_3, fl__law_right_4, b__law_right, fl_law_1, b_law, sig__law_left, sig_below_of, sig_way_down, sig_lets_into, sig_bank_of, sig_field_day, sig_day_of, sig__law_same, sig__law_mix, sig__law_pick, sig__law_some_names, sig__law_terrace, sig_stand_of, sig__law_day, sig__law_right, sig_law, $xs,*])
local macro_rules | `(tactic| simp_arith) => `(tactic| try simp only [↓W_rt, ↓W_bd, ↓W_eC, ↓W_eV, ↓W_cN, ↓W_cA, ↓W_eP, ↓W_eM, ↓W_ckT, ↓W_eU, ↓W_eTup, ↓W_eLst, ↓W_eDk, ↓W_eDt, ↓W_mB, ↓W_mT, ↓W_mNot, ↓W_mAnd, ↓W_mOr, ↓W_eNot, ↓W_eAnd, ↓W_eOr, ↓W_eIf, ↓W_eTmp, ↓W_mTmp, ↓W_oN, ↓W_oS, ↓W_eSl, ↓W_eChain, ↓W_sNil, ↓W_sPass, ↓W_sBrk, ↓W_sCnt, ↓W_sRetN, ↓W_sSeq, ↓W_sExp, ↓W_sRet, ↓W_sIf, ↓W_sAsg, ↓W_gsN, ↓W_gsC, ↓W_gT, ↓W_gTl, ↓W_gS, ↓W_hb_im, ↓W_hb_fr, ↓W_hb_bo, ↓W_sPF, ↓W_sPF3, ↓W_gN_im, ↓W_gN_fr, ↓W_gN_bo, ↓W_frz_im, ↓W_frz_fr, ↓W_frz_bo, ↓W_frzs_nil, ↓W_frzs_cons, ↓W_frzA_nil, ↓W_frzA_t, ↓W_frzA_im, ↓W_frzA_bo, ↓W_callE, ↓W_eCallN, ↓W_eCallF, ↓WO_runF, ↓W_mR1, ↓W_mR2, ↓W_mLst, ↓W_mTup, ↓W_mEnum, ↓W_mEnumT, ↓W_mStr, ↓W_mZip, ↓W_sFor, ↓W_sWhl, ↓W_eComp, ↓W_eTupB, ↓W_sAug, ↓W_mZipM, ↓Rw_to4, ↓Rw_from4, ↓W_gT_Fld, ↓W_gT_Gt, ↓W_gT_Lt, ↓W_gT_bD, ↓W_gT_Dn, ↓W_gT_Rw, ↓Fld_i0, ↓Fld_i1, ↓Fld_i2, ↓Fld_i3, ↓Fld_i4, ↓Gt_i0, ↓Gt_i1, ↓Gt_i2, ↓Gt_i3, ↓Lt_i0, ↓Lt_i1, ↓Lt_i2, ↓bD_i0, ↓bD_i1, ↓Dn_i0, ↓Dn_i1, ↓Dn_i2, ↓Dn_i3, ↓Rw_i0, ↓Rw_i1, ↓Rw_i2, ↓Rw_i3, ↓Rw_i4, ↓Rw_i5, ↓Rw_i6, ↓Ter_i0, ↓Ter_i1, WO_map, WO_some, WO_none, WB_true, WB_false, WC_true, goes_nx, goes_ct, goes_bk, goes_rt, cut_nx, cut_bk, cut_ct, cut_rt, puts_nil, puts_cons, List.getElem?_cons_zero, List.getElem?_cons_succ, setO, frzO_eq, Option.map_some, putO, putC, List.set_cons_zero, List.set_cons_succ, mutAtD, PD.cnts, PD.cnt, Vl.hold, tyT, beq_self_eq_true, small_eq, lessL_eq, decide_true, decide_false, List.length_cons, List.length_nil, mkE, List.replicate_succ, List.replicate_zero, List.cons_append, List.nil_append, outE, retV, ioAll, ioIx, brIx, mutAt, updE, disj, nmOut, Vl.nm, D.nm, D.nmC, nms, Sl.mut, Sl.frz, D.atom, List.map_cons, List.map_nil, wipeE, unwipe, calm_em, calm_im, calm_none, List.all_cons, List.all_nil, Bool.and_true, Bool.true_and, Bool.and_self, Bool.or_true, Bool.or_self, Bool.true_or, Bool.false_or, Bool.or_false, Bool.not_true, Bool.not_false, Bool.and_false, Bool.false_and, List.isEmpty_nil, List.isEmpty_cons, List.nodup_cons, List.nodup_nil, List.not_mem_nil, not_false_eq_true, and_self, List.contains_nil, if_true, if_false, Bool.false_eq_true, ite_true, ite_false, rg1, rg2, seqL, seqT, zipO, addD, subD, mulD, divD, modD, powD, negD, ltD, leD, gtD, geD, lenD, absD, minD, maxD, PD.intD, ixD, isnD, appendD, reverseD, extendD, slD, setD, listD, tupleD, tupleBD, truD, at0, at1, at2, at3, at4, at5, at6, at7, sd0, sd1, sd2, sd3, ixN, Int.cast_ofNat_Int, Int.reduceEq, Int.reduceNe, Int.reduceLT, Int.reduceLE, Int.reduceNeg, Int.reduceAdd, Int.reduceSub, Int.reduceMul, Int.reducePow, Nat.reducePow, Int.reduceToNat, Int.reduceAbs, ne_eq, not_true_eq_false, Nat.zero_add, Nat.add_zero, Nat.reduceAdd, Nat.reduceSub, Nat.reduceLT, Nat.reduceLeDiff, Nat.reduceEqDiff, Nat.reduceMul, i63_0, i63_1, zipMO_lt, zipMO_tl, zipMO_ll, List.flatten_cons, List.flatten_nil, Nat.lt_irrefl, reduceCtorEq, Nat.zero_lt_succ, Nat.reduceSubDiff, Nat.sub_zero, Nat.sub_self, Bool.not_eq_true, Bool.not_eq_false, b__law_left, wc_below_of_1, wl_below_of_1, ce_below_of_2, cp_below_of_2, b_below_of, ce_way_down_1, cp_way_down_1, ce_way_down_2, cp_way_down_2, b_way_down, ce_lets_into_1, cp_lets_into_1, b_lets_into, b_bank_of, b_field_day, ce_day_of_1, cp_day_of_1, fl_day_of_2, ce_day_of_3, cp_day_of_3, ce_day_of_4, cp_day_of_4, b_day_of, wc__law_same_1, wl__law_same_1, b__law_same, b__law_mix, b__law_pick, fl__law_some_names_1, ce__law_some_names_2, cp__law_some_names_2, ce__law_some_names_3, cp__law_some_names_3, ce__law_some_names_4, cp__law_some_names_4, b__law_some_names, ce__law_terrace_1, cp__law_terrace_1, ce__law_terrace_2, cp__law_terrace_2, ce__law_terrace_3, cp__law_terrace_3, fl__law_terrace_4, fl__law_terrace_5, b__law_terrace, ce_stand_of_1, cp_stand_of_1, b_stand_of, ce__law_field_row_1, cp__law_field_row_1, ce__law_field_row_2, cp__law_field_row_2, ce__law_field_row_3, cp__law_field_row_3, ce__law_field_row_4, cp__law_field_row_4, b__law_field_row, ce__law_day_1, cp__law_day_1, b__law_day, ce__law_right_1, cp__law_right_1, ce__law_right_2, cp__law_right_2, ce__law_right_3, cp__law_right_3, fl__law_right_4, b__law_right, fl_law_1, b_law, sig__law_left, sig_below_of, sig_way_down, sig_lets_into, sig_bank_of, sig_field_day, sig_day_of, sig__law_same, sig__law_mix, sig__law_pick, sig__law_some_names, sig__law_terrace, sig_stand_of, sig__law_day, sig__law_right, sig_law])
theorem right_wp {n : Nat} {l : D} {b : Bool} {K : Vl × List D → Prop} (h : Lf n l) (hn : n < 2 ^ 17) (q : ∀ l', Lf (n + 500) l' → K (.im (.bl true), [l', .bl b])) : @WO _ (F__law_right.sem [l, .bl b]) ⟨K⟩ := by
  rw [sem__law_right]
  simp_arith
  refine terrace_wp h (by omega) fun fl gs l1 f1 f8 fb ht hg B1 => ?_
  simp_arith
  refine pick_wp (by assumption) (by omega) (by omega) (by omega) fun way l2 waya wayb B2 => ?_
  simp_arith [List.length_map]
  refine pick_wp (by assumption) (by omega) (by omega) (by omega) fun spot l3 spota spotb B3 => ?_
  simp_arith
  refine W_forE (fun e0 i e => ∃ l st a b c d, (Cm a ∧ Cm b ∧ Cm c ∧ Cm d) ∧ st.length = i ∧ (∀ w ∈ st, 0 ≤ w ∧ w ≤ 99999) ∧ Lf (n + 252 + 5 * i) l ∧ e = puts e0 [(0, .io 0 l), (5, .ow (.lst (st.map D.int))), (6, a), (7, b), (11, c), (12, d)]) ⟨l3, [], _, _, _, _, ⟨.em, .em, .em, .em⟩, rfl, fun _ h => by simp at h, B3.mono (by omega), rfl⟩ ?_ ?_
  · rintro i d _ hd ⟨l4, st, a, b', c, d', ⟨ca, cb, cc, cd⟩, hs, hw, B4, rfl⟩
    obtain ⟨x, hx, rfl⟩ := enum_get hd
    obtain ⟨f, hfi, hfm, rfl⟩ := at_map hx
    obtain ⟨_, _, _, d0, d1, _⟩ := ht.ok f hfm
    have hil := lt_at hfi
    simp_arith [fb__law_right_4]
    refine pick_wp (by assumption) (by omega) (by omega) (by omega) fun r1 l5 r1a r1b B5 => ?_
    simp_arith
    refine pick_wp (by assumption) (by omega) (by omega) (by omega) fun r2 l6 r2a r2b B6 => ?_
    simp_arith
    refine WO_atP (P := Has (.int 0 (99999 - f.dy))) ?_ (by omega) (by simp; omega) ?_
    · iterate 4 refine all_cons (Has.mkI (by omega) (by omega)) ?_
      exact all_nil
    rintro _ ⟨ab, rfl, ab0, ab1⟩
    simp_arith [eqD_int]
    refine pick_wp (by assumption) (by omega) (by omega) (by omega) fun r3 l7 r3a r3b B7 => ?_
    simp_arith [eqD_int]
    refine WO_atP (P := fun d => ∃ t : Bool, d = .bl t) ?_ (by omega) (by simp; omega) ?_
    · iterate 3 refine all_cons ⟨_, rfl⟩ ?_
      exact all_nil
    rintro _ ⟨t, rfl⟩
    have em : ∀ w : Int, st.map D.int ++ [D.int w] = (st ++ [w]).map D.int := fun w => by
      rw [List.map_append]
      rfl
    have ok : ∀ w : Int, 0 ≤ w → w ≤ 99999 → ∀ x ∈ st ++ [w], 0 ≤ x ∧ x ≤ 99999 := fun w h0 h1 x hx => by
      rcases List.mem_append.mp hx with hx | hx
      · exact hw x hx
      · rw [List.mem_singleton.mp hx]
        exact ⟨h0, h1⟩
    cases t with
    | true =>
      simp_arith [List.length_map]
      refine WO_ifd (by omega) ?_
      simp_arith [em]
      exact ⟨l7, st ++ [f.dy + ab], _, _, _, _, ⟨.im, .im, .im, .im⟩, by simp [hs], ok _ (by omega) (by omega), B7.mono (by omega), rfl⟩
    | false =>
      simp_arith
      refine pick_wp (by assumption) (by omega) (by omega) (by omega) fun r4 l8 r4a r4b B8 => ?_
      simp_arith [List.length_map]
      refine WO_ifd (by omega) ?_
      simp_arith [em]
      exact ⟨l8, st ++ [r4], _, _, _, _, ⟨.im, .im, .im, .im⟩, by simp [hs], ok _ (by omega) (by omega), B8.mono (by omega), rfl⟩
  rintro _ ⟨l4, st, a, b', c, d', ⟨ca, cb, cc, cd⟩, hs, hw, B4, rfl⟩
  rw [enum_len, List.length_map] at hs B4
  simp_arith
  refine pick_wp (by assumption) (by omega) (by omega) (by omega) fun r5 l5 r5a r5b B5 => ?_
  simp_arith
  refine pick_wp (by assumption) (by omega) (by omega) (by omega) fun r6 l6 r6a r6b B6 => ?_
  simp_arith
  refine WO_atP (P := Has (.int 0 99)) ?_ (by omega) (by simp; omega) ?_
  · iterate 2 refine all_cons (Has.mkI (by omega) (by omega)) ?_
    exact all_nil
  rintro _ ⟨su, rfl, su0, su1⟩
  have hq := quiet_ok su0 su1
  have hqd : D.tup [.int 0, .int su, .tup [], .tp []] = (⟨0, su, [], []⟩ : Dn).d := rfl
  simp_arith [hqd]
  refine day_wp ht f8 hs hq ?_
  simp_arith
  refine lday_wp ht f8 hs hq ?_
  have hsol := dayR_sol (n := ⟨0, su, [], []⟩) ht hs
  generalize dayR fl st ⟨0, su, [], []⟩ = rs at *
  have hrl := hsol.len
  have hw0 : ∀ w ∈ st, 0 ≤ w := fun w hw' => (hw w hw').1
  have hz1 := rows_sz rs
  simp_arith
  refine same_wp (rows_pl rs) (by omega) ?_
  obtain ⟨ps, hp1, hp2⟩ := side2 (xs := fl) (ys := rs) hrl
  have hpl : ps.length = fl.length := by rw [← hp1, List.length_map]
  have hF : ∀ p ∈ ps, ∃ w, RowFacts p.1 w ⟨0, su, [], []⟩ (cameOf fl rs p.1.nm) p.2 := fun p hp => by
    obtain ⟨i, h1, h2⟩ := side2_at hp
    rw [hp1] at h1
    rw [hp2] at h2
    obtain ⟨w, hwi, _⟩ := at_of (l := st) (i := i) (by rw [hs]; exact lt_at h1)
    exact ⟨w, hsol.facts hs ht hq hw0 h1 hwi h2⟩
  have hz : zipD (fl.map Fld.d) (rs.map Rw.d) = ps.map fun p => .tup [p.1.d, p.2.d] := by
    rw [← hp1, ← hp2, List.map_map, List.map_map]
    exact zipM_map (fun p : Fld × Rw => p.1.d) (fun p => p.2.d) ps
  simp_arith [hz, ↓ca.frz, ↓cb.frz, ↓cc.frz, ↓cd.frz, cb.calm]
  refine W_comp_mapA (fun p : Fld × Rw => .tup [p.1.d, p.2.d]) (fun _ => .bl true) (fun p hp => ?_) ?_
  · obtain ⟨w, hf⟩ := hF p hp
    have h1 := hf.held
    rw [quiet_lvl] at h1
    have h2 : p.2.so + (p.2.dr + p.2.st) ≤ p.1.dy := by omega
    simp_arith [sumT3, h2]
  have ha := allD_map (fun _ : Fld × Rw => true) ps
  rw [List.all_eq_true.mpr (fun _ _ => rfl)] at ha
  simp_arith [List.length_map]
  refine WC_dec (by omega) ?_
  obtain ⟨j, rfl⟩ := Int.eq_ofNat_of_zero_le spota
  obtain ⟨f, hf, _⟩ := at_of (l := fl) (i := j) (by omega)
  obtain ⟨r, hr, _⟩ := at_of (l := rs) (i := j) (by omega)
  obtain ⟨w, hwj, _⟩ := at_of (l := st) (i := j) (by omega)
  have x1 : ixD [.tup (fl.map Fld.d), .int (j : Int)] = some (.im f.d) := by
    show (L2.atI (fl.map Fld.d) (j : Int)).map Vl.im = _
    rw [atI_map Fld.d hf]
    rfl
  have x2 : ixD [.lst (rs.map Rw.d), .int (j : Int)] = some (.im r.d) := by
    show (L2.atI (rs.map Rw.d) (j : Int)).map Vl.im = _
    rw [atI_map Rw.d hr]
    rfl
  have x3 : ixD [.lst (st.map D.int), .int (j : Int)] = some (.im (.int w)) := by
    show (L2.atI (st.map D.int) (j : Int)).map Vl.im = _
    rw [atI_map D.int hwj]
    rfl
  have hfj := hsol.facts hs ht hq hw0 hf hwj hr
  have hrn : ¬ r.rn < w - f.dy := by
    have h1 := hfj.all
    have h2 := hfj.held
    rw [quiet_lvl] at h2
    have h3 := hfj.ra0
    have h4 := hfj.le0
    have h5 := hfj.ca0
    omega
  simp_arith [ha, ↓x1, ↓x2, ↓x3, hrn]
  refine stof_wp (by omega) ?_
  simp_arith [↓ca.frz, ↓cb.frz, ↓cc.frz, ↓cd.frz, cb.calm]
  have hs2 : (rs.map Rw.st).length = fl.length := by rw [List.length_map, hrl]
  refine day_wp ht f8 hs2 hq ?_
  have hst2 := quiet_still ht hs2 su0 su1 fun i f w h1 h2 => by
    obtain ⟨r, hri, _, rfl⟩ := at_map h2
    obtain ⟨w0, hwi, _⟩ := at_of (l := st) (i := i) (by rw [hs]; exact lt_at h1)
    have hf := hsol.facts hs ht hq hw0 h1 hwi hri
    have g1 := hf.held
    rw [quiet_lvl] at g1
    have g2 := hf.so0
    have g3 := hf.dr0
    exact ⟨hf.st0, by omega⟩
  have hsol2 := dayR_sol (n := ⟨0, su, [], []⟩) ht hs2
  have hday2 : ∀ K : Vl × List D → Prop, K (.fr (.lst ((dayR fl (rs.map Rw.st) ⟨0, su, [], []⟩).map Rw.d)), [terD fl gs, .tup ((rs.map Rw.st).map D.int), (⟨0, su, [], []⟩ : Dn).d]) → @WO _ (F__law_day.sem [terD fl gs, .tup ((rs.map Rw.st).map D.int), (⟨0, su, [], []⟩ : Dn).d]) ⟨K⟩ := fun K q => lday_wp ht f8 hs2 hq q
  generalize dayR fl (rs.map Rw.st) ⟨0, su, [], []⟩ = rs2 at *
  have hrl2 := hsol2.len
  have hz2 := rows_sz rs2
  simp_arith [↓ca.frz, ↓cb.frz, ↓cc.frz, ↓cd.frz, cb.calm]
  refine W_comp_mapA Rw.d (fun _ => .bl false) (fun r' hr' => ?_) ?_
  · obtain ⟨k1, k2, k3, k4⟩ := hst2 r' hr'
    have h4 : neD [.tup [.int 0, .int 0, .int 0, .int 0], .tup [.int 0, .int 0, .int 0, .int 0]] = some (.im (.bl false)) := neD_self (t := .tup [.int 0 0, .int 0 0, .int 0 0, .int 0 0]) (Has.mkT (.cons (Has.mkI (by omega) (by omega)) (.cons (Has.mkI (by omega) (by omega)) (.cons (Has.mkI (by omega) (by omega)) (.cons (Has.mkI (by omega) (by omega)) .nil))))) (by decide)
    simp_arith [k1, k2, k3, k4, h4]
  have ha2 := anyD_map (fun _ : Rw => false) rs2
  have ha3 : (rs2.any fun _ => false) = false := by simp
  rw [ha3] at ha2
  simp_arith [List.length_map]
  refine WC_dec (by omega) ?_
  simp_arith [ha2, ↓ca.frz, ↓cb.frz, ↓cc.frz, ↓cd.frz, cb.calm]
  refine W_comp_mapA Rw.d (fun r => .int r.st) (fun r' hr' => ?_) ?_
  · simp_arith
  have em3 : rs.map (fun r => D.int r.st) = (rs.map Rw.st).map D.int := by rw [List.map_map]; rfl
  rw [em3]
  simp_arith [List.length_map]
  refine WC_dec (by omega) ?_
  simp_arith
  refine hday2 _ ?_
  simp_arith
  refine same_wp (rows_pl rs2) (by omega) ?_
  simp_arith
  exact q _ (B6.mono (by omega))
theorem sem_law : ∀ ns : List Int, ns.length ≤ 63 → ∃ o, F_law.sem [.sc ns] = some (.im (.bl true), o) := by
  intro ns hns
  suffices key : @WO _ (F_law.sem [.sc ns]) ⟨fun p => ∃ o, p = (.im (.bl true), o)⟩ by
    obtain ⟨p, h, o, rfl⟩ := key
    exact ⟨o, h⟩
  rw [sem_law0]
  simp_arith
  refine left_wp hns fun l0 B0 => ?_
  simp_arith
  refine WO_if (by exact in62_small (by omega) (by omega)) ?_
  simp_arith
  refine W_forE (fun e0 i e => ∃ l a, Lf (500 * i) l ∧ e = puts e0 [(1, .ow l), (2, a)]) ⟨l0, .em, B0, rfl⟩ ?_ ?_
  · rintro i d _ hd ⟨l1, a, B1, rfl⟩
    obtain ⟨hi, rfl⟩ := rng_get hd
    simp_arith [fb_law_1, eqD_int]
    refine right_wp B1 (by omega) fun l2 B2 => ?_
    simp_arith
    exact ⟨l2, _, B2.mono (by omega), rfl⟩
  · rintro _ ⟨l1, a, B1, rfl⟩
    simp_arith
    exact ⟨_, rfl⟩
end L_k16
namespace L_k16
open PySem PySem.Spec PyProof.Rows L2 PD
theorem all_mk {l : PySem.W.OpenLaw} {w : World} {K : PySem.W.Frag} {h : Heap} {mg : Str → Option Value} {fa : Addr} (X : K.In h) (G : h.Ns mainGlobals mg) (hfa : mg "law" = some (.ref fa))
    {f__law_left f_below_of f_way_down f_lets_into f_bank_of f_field_day f_day_of f__law_same f__law_mix f__law_pick f__law_some_names f__law_terrace f_stand_of f__law_field_row f__law_day f__law_right f_law : Addr}
    {od__law_left an__law_left od_below_of an_below_of od_way_down an_way_down od_lets_into an_lets_into od_bank_of an_bank_of od_field_day an_field_day od_day_of an_day_of od__law_same an__law_same od__law_mix an__law_mix od__law_pick an__law_pick od__law_some_names an__law_some_names od__law_terrace an__law_terrace od_stand_of an_stand_of od__law_field_row an__law_field_row od__law_day an__law_day od__law_right an__law_right od_law an_law : Option Addr}
    {sl__law_left sl_below_of sl_way_down sl_lets_into sl_bank_of sl_field_day sl_day_of sl__law_same sl__law_mix sl__law_pick sl__law_some_names sl__law_terrace sl_stand_of sl__law_field_row sl__law_day sl__law_right sl_law : Array (Option Value)}
    {oc__law_left kV__law_left dc__law_left pm__law_left cd__law_left ct__law_left oc_below_of kV_below_of dc_below_of pm_below_of cd_below_of ct_below_of oc_way_down kV_way_down dc_way_down pm_way_down cd_way_down ct_way_down oc_lets_into kV_lets_into dc_lets_into pm_lets_into cd_lets_into ct_lets_into oc_bank_of kV_bank_of dc_bank_of pm_bank_of cd_bank_of ct_bank_of oc_field_day kV_field_day dc_field_day pm_field_day cd_field_day ct_field_day oc_day_of kV_day_of dc_day_of pm_day_of cd_day_of ct_day_of oc__law_same kV__law_same dc__law_same pm__law_same cd__law_same ct__law_same oc__law_mix kV__law_mix dc__law_mix pm__law_mix cd__law_mix ct__law_mix oc__law_pick kV__law_pick dc__law_pick pm__law_pick cd__law_pick ct__law_pick oc__law_some_names kV__law_some_names dc__law_some_names pm__law_some_names cd__law_some_names ct__law_some_names oc__law_terrace kV__law_terrace dc__law_terrace pm__law_terrace cd__law_terrace ct__law_terrace oc_stand_of kV_stand_of dc_stand_of pm_stand_of cd_stand_of ct_stand_of oc__law_field_row kV__law_field_row dc__law_field_row pm__law_field_row cd__law_field_row ct__law_field_row oc__law_day kV__law_day dc__law_day pm__law_day cd__law_day ct__law_day oc__law_right kV__law_right dc__law_right pm__law_right cd__law_right ct__law_right oc_law kV_law dc_law pm_law cd_law ct_law : Value}
    (a__law_left : PySem.W.nsIn K mainGlobals "_law_left" = some (some (.ref f__law_left))) (l__law_left : K.lookup f__law_left = some ⟨oc__law_left, od__law_left, .func (PySem.W.fnOf "_law_left" "_law_left" (defArgs s__law_left) (defBody s__law_left) (defScope s__law_left) .none kV__law_left dc__law_left pm__law_left an__law_left cd__law_left ct__law_left), sl__law_left⟩) (k__law_left : PySem.W.codeIn K cd__law_left "_law_left" = true) (p__law_left : PySem.W.keepIn K (.ref f__law_left) = true)
    (a_below_of : PySem.W.nsIn K mainGlobals "below_of" = some (some (.ref f_below_of))) (l_below_of : K.lookup f_below_of = some ⟨oc_below_of, od_below_of, .func (PySem.W.fnOf "below_of" "below_of" (defArgs s_below_of) (defBody s_below_of) (defScope s_below_of) .none kV_below_of dc_below_of pm_below_of an_below_of cd_below_of ct_below_of), sl_below_of⟩) (k_below_of : PySem.W.codeIn K cd_below_of "below_of" = true) (p_below_of : PySem.W.keepIn K (.ref f_below_of) = true)
    (a_way_down : PySem.W.nsIn K mainGlobals "way_down" = some (some (.ref f_way_down))) (l_way_down : K.lookup f_way_down = some ⟨oc_way_down, od_way_down, .func (PySem.W.fnOf "way_down" "way_down" (defArgs s_way_down) (defBody s_way_down) (defScope s_way_down) .none kV_way_down dc_way_down pm_way_down an_way_down cd_way_down ct_way_down), sl_way_down⟩) (k_way_down : PySem.W.codeIn K cd_way_down "way_down" = true) (p_way_down : PySem.W.keepIn K (.ref f_way_down) = true)
    (a_lets_into : PySem.W.nsIn K mainGlobals "lets_into" = some (some (.ref f_lets_into))) (l_lets_into : K.lookup f_lets_into = some ⟨oc_lets_into, od_lets_into, .func (PySem.W.fnOf "lets_into" "lets_into" (defArgs s_lets_into) (defBody s_lets_into) (defScope s_lets_into) .none kV_lets_into dc_lets_into pm_lets_into an_lets_into cd_lets_into ct_lets_into), sl_lets_into⟩) (k_lets_into : PySem.W.codeIn K cd_lets_into "lets_into" = true) (p_lets_into : PySem.W.keepIn K (.ref f_lets_into) = true)
    (a_bank_of : PySem.W.nsIn K mainGlobals "bank_of" = some (some (.ref f_bank_of))) (l_bank_of : K.lookup f_bank_of = some ⟨oc_bank_of, od_bank_of, .func (PySem.W.fnOf "bank_of" "bank_of" (defArgs s_bank_of) (defBody s_bank_of) (defScope s_bank_of) .none kV_bank_of dc_bank_of pm_bank_of an_bank_of cd_bank_of ct_bank_of), sl_bank_of⟩) (k_bank_of : PySem.W.codeIn K cd_bank_of "bank_of" = true) (p_bank_of : PySem.W.keepIn K (.ref f_bank_of) = true)
    (a_field_day : PySem.W.nsIn K mainGlobals "field_day" = some (some (.ref f_field_day))) (l_field_day : K.lookup f_field_day = some ⟨oc_field_day, od_field_day, .func (PySem.W.fnOf "field_day" "field_day" (defArgs s_field_day) (defBody s_field_day) (defScope s_field_day) .none kV_field_day dc_field_day pm_field_day an_field_day cd_field_day ct_field_day), sl_field_day⟩) (k_field_day : PySem.W.codeIn K cd_field_day "field_day" = true) (p_field_day : PySem.W.keepIn K (.ref f_field_day) = true)
    (a_day_of : PySem.W.nsIn K mainGlobals "day_of" = some (some (.ref f_day_of))) (l_day_of : K.lookup f_day_of = some ⟨oc_day_of, od_day_of, .func (PySem.W.fnOf "day_of" "day_of" (defArgs s_day_of) (defBody s_day_of) (defScope s_day_of) .none kV_day_of dc_day_of pm_day_of an_day_of cd_day_of ct_day_of), sl_day_of⟩) (k_day_of : PySem.W.codeIn K cd_day_of "day_of" = true) (p_day_of : PySem.W.keepIn K (.ref f_day_of) = true)
    (a__law_same : PySem.W.nsIn K mainGlobals "_law_same" = some (some (.ref f__law_same))) (l__law_same : K.lookup f__law_same = some ⟨oc__law_same, od__law_same, .func (PySem.W.fnOf "_law_same" "_law_same" (defArgs s__law_same) (defBody s__law_same) (defScope s__law_same) .none kV__law_same dc__law_same pm__law_same an__law_same cd__law_same ct__law_same), sl__law_same⟩) (k__law_same : PySem.W.codeIn K cd__law_same "_law_same" = true) (p__law_same : PySem.W.keepIn K (.ref f__law_same) = true)
    (a__law_mix : PySem.W.nsIn K mainGlobals "_law_mix" = some (some (.ref f__law_mix))) (l__law_mix : K.lookup f__law_mix = some ⟨oc__law_mix, od__law_mix, .func (PySem.W.fnOf "_law_mix" "_law_mix" (defArgs s__law_mix) (defBody s__law_mix) (defScope s__law_mix) .none kV__law_mix dc__law_mix pm__law_mix an__law_mix cd__law_mix ct__law_mix), sl__law_mix⟩) (k__law_mix : PySem.W.codeIn K cd__law_mix "_law_mix" = true) (p__law_mix : PySem.W.keepIn K (.ref f__law_mix) = true)
    (a__law_pick : PySem.W.nsIn K mainGlobals "_law_pick" = some (some (.ref f__law_pick))) (l__law_pick : K.lookup f__law_pick = some ⟨oc__law_pick, od__law_pick, .func (PySem.W.fnOf "_law_pick" "_law_pick" (defArgs s__law_pick) (defBody s__law_pick) (defScope s__law_pick) .none kV__law_pick dc__law_pick pm__law_pick an__law_pick cd__law_pick ct__law_pick), sl__law_pick⟩) (k__law_pick : PySem.W.codeIn K cd__law_pick "_law_pick" = true) (p__law_pick : PySem.W.keepIn K (.ref f__law_pick) = true)
    (a__law_some_names : PySem.W.nsIn K mainGlobals "_law_some_names" = some (some (.ref f__law_some_names))) (l__law_some_names : K.lookup f__law_some_names = some ⟨oc__law_some_names, od__law_some_names, .func (PySem.W.fnOf "_law_some_names" "_law_some_names" (defArgs s__law_some_names) (defBody s__law_some_names) (defScope s__law_some_names) .none kV__law_some_names dc__law_some_names pm__law_some_names an__law_some_names cd__law_some_names ct__law_some_names), sl__law_some_names⟩) (k__law_some_names : PySem.W.codeIn K cd__law_some_names "_law_some_names" = true) (p__law_some_names : PySem.W.keepIn K (.ref f__law_some_names) = true)
    (a__law_terrace : PySem.W.nsIn K mainGlobals "_law_terrace" = some (some (.ref f__law_terrace))) (l__law_terrace : K.lookup f__law_terrace = some ⟨oc__law_terrace, od__law_terrace, .func (PySem.W.fnOf "_law_terrace" "_law_terrace" (defArgs s__law_terrace) (defBody s__law_terrace) (defScope s__law_terrace) .none kV__law_terrace dc__law_terrace pm__law_terrace an__law_terrace cd__law_terrace ct__law_terrace), sl__law_terrace⟩) (k__law_terrace : PySem.W.codeIn K cd__law_terrace "_law_terrace" = true) (p__law_terrace : PySem.W.keepIn K (.ref f__law_terrace) = true)
    (a_stand_of : PySem.W.nsIn K mainGlobals "stand_of" = some (some (.ref f_stand_of))) (l_stand_of : K.lookup f_stand_of = some ⟨oc_stand_of, od_stand_of, .func (PySem.W.fnOf "stand_of" "stand_of" (defArgs s_stand_of) (defBody s_stand_of) (defScope s_stand_of) .none kV_stand_of dc_stand_of pm_stand_of an_stand_of cd_stand_of ct_stand_of), sl_stand_of⟩) (k_stand_of : PySem.W.codeIn K cd_stand_of "stand_of" = true) (p_stand_of : PySem.W.keepIn K (.ref f_stand_of) = true)
    (a__law_field_row : PySem.W.nsIn K mainGlobals "_law_field_row" = some (some (.ref f__law_field_row))) (l__law_field_row : K.lookup f__law_field_row = some ⟨oc__law_field_row, od__law_field_row, .func (PySem.W.fnOf "_law_field_row" "_law_field_row" (defArgs s__law_field_row) (defBody s__law_field_row) (defScope s__law_field_row) .none kV__law_field_row dc__law_field_row pm__law_field_row an__law_field_row cd__law_field_row ct__law_field_row), sl__law_field_row⟩) (k__law_field_row : PySem.W.codeIn K cd__law_field_row "_law_field_row" = true) (p__law_field_row : PySem.W.keepIn K (.ref f__law_field_row) = true)
    (a__law_day : PySem.W.nsIn K mainGlobals "_law_day" = some (some (.ref f__law_day))) (l__law_day : K.lookup f__law_day = some ⟨oc__law_day, od__law_day, .func (PySem.W.fnOf "_law_day" "_law_day" (defArgs s__law_day) (defBody s__law_day) (defScope s__law_day) .none kV__law_day dc__law_day pm__law_day an__law_day cd__law_day ct__law_day), sl__law_day⟩) (k__law_day : PySem.W.codeIn K cd__law_day "_law_day" = true) (p__law_day : PySem.W.keepIn K (.ref f__law_day) = true)
    (a__law_right : PySem.W.nsIn K mainGlobals "_law_right" = some (some (.ref f__law_right))) (l__law_right : K.lookup f__law_right = some ⟨oc__law_right, od__law_right, .func (PySem.W.fnOf "_law_right" "_law_right" (defArgs s__law_right) (defBody s__law_right) (defScope s__law_right) .none kV__law_right dc__law_right pm__law_right an__law_right cd__law_right ct__law_right), sl__law_right⟩) (k__law_right : PySem.W.codeIn K cd__law_right "_law_right" = true) (p__law_right : PySem.W.keepIn K (.ref f__law_right) = true)
    (a_law : PySem.W.nsIn K mainGlobals "law" = some (some (.ref f_law))) (l_law : K.lookup f_law = some ⟨oc_law, od_law, .func (PySem.W.fnOf "law" "law" (defArgs s_law) (defBody s_law) (defScope s_law) .none kV_law dc_law pm_law an_law cd_law ct_law), sl_law⟩) (k_law : PySem.W.codeIn K cd_law "law" = true) (p_law : PySem.W.keepIn K (.ref f_law) = true)
    (z_abs : PySem.W.nsIn K mainGlobals "abs" = some none)
    (z_all : PySem.W.nsIn K mainGlobals "all" = some none)
    (z_any : PySem.W.nsIn K mainGlobals "any" = some none)
    (z_bool : PySem.W.nsIn K mainGlobals "bool" = some none)
    (z_dict : PySem.W.nsIn K mainGlobals "dict" = some none)
    (z_enumerate : PySem.W.nsIn K mainGlobals "enumerate" = some none)
    (z_int : PySem.W.nsIn K mainGlobals "int" = some none)
    (z_isinstance : PySem.W.nsIn K mainGlobals "isinstance" = some none)
    (z_len : PySem.W.nsIn K mainGlobals "len" = some none)
    (z_list : PySem.W.nsIn K mainGlobals "list" = some none)
    (z_max : PySem.W.nsIn K mainGlobals "max" = some none)
    (z_min : PySem.W.nsIn K mainGlobals "min" = some none)
    (z_range : PySem.W.nsIn K mainGlobals "range" = some none)
    (z_sorted : PySem.W.nsIn K mainGlobals "sorted" = some none)
    (z_str : PySem.W.nsIn K mainGlobals "str" = some none)
    (z_sum : PySem.W.nsIn K mainGlobals "sum" = some none)
    (z_tuple : PySem.W.nsIn K mainGlobals "tuple" = some none)
    (z_zip : PySem.W.nsIn K mainGlobals "zip" = some none) :
    ∃ fd : FuncData, (∀ (s : Shared) (u : Value), BindsTo s fd ⟨[u], []⟩ [("_law_script", u)]) ∧ ∀ base : Heap, K.In base → base.Ns mainGlobals mg → FnG ⟨l.prog, w, K, mg, base⟩ 13 fa fd ["_law_script"] (spF K F_law) := by
  have e := hfa.symm.trans (PySem.W.mg_of X G a_law)
  cases e
  refine ⟨PySem.W.fnOf "law" "law" (defArgs s_law) (defBody s_law) (defScope s_law) .none kV_law dc_law pm_law an_law cd_law ct_law, fun s v => .of_eq rfl, fun base _ _ => fg_law ⟨?d__law_left, ?d_below_of, ?d_way_down, ?d_lets_into, ?d_bank_of, ?d_field_day, ?d_day_of, ?d__law_same, ?d__law_mix, ?d__law_pick, ?d__law_some_names, ?d__law_terrace, ?d_stand_of, ?d__law_field_row, ?d__law_day, ?d__law_right, ?z_abs, ?z_all, ?z_any, ?z_bool, ?z_dict, ?z_enumerate, ?z_int, ?z_isinstance, ?z_len, ?z_list, ?z_max, ?z_min, ?z_range, ?z_sorted, ?z_str, ?z_sum, ?z_tuple, ?z_zip⟩ (fun_mk (st := s_law) l_law k_law p_law)⟩
  case d__law_left => exact ⟨f__law_left, _, PySem.W.mg_of X G a__law_left, fun_mk (st := s__law_left) l__law_left k__law_left p__law_left, (fun_mk (st := s__law_left) l__law_left k__law_left p__law_left).binds fun _ _ _ _ _ _ us hl => match us, hl with | [_], _ => rfl⟩
  case d_below_of => exact ⟨f_below_of, _, PySem.W.mg_of X G a_below_of, fun_mk (st := s_below_of) l_below_of k_below_of p_below_of, (fun_mk (st := s_below_of) l_below_of k_below_of p_below_of).binds fun _ _ _ _ _ _ us hl => match us, hl with | [_, _], _ => rfl⟩
  case d_way_down => exact ⟨f_way_down, _, PySem.W.mg_of X G a_way_down, fun_mk (st := s_way_down) l_way_down k_way_down p_way_down, (fun_mk (st := s_way_down) l_way_down k_way_down p_way_down).binds fun _ _ _ _ _ _ us hl => match us, hl with | [_], _ => rfl⟩
  case d_lets_into => exact ⟨f_lets_into, _, PySem.W.mg_of X G a_lets_into, fun_mk (st := s_lets_into) l_lets_into k_lets_into p_lets_into, (fun_mk (st := s_lets_into) l_lets_into k_lets_into p_lets_into).binds fun _ _ _ _ _ _ us hl => match us, hl with | [_, _], _ => rfl⟩
  case d_bank_of => exact ⟨f_bank_of, _, PySem.W.mg_of X G a_bank_of, fun_mk (st := s_bank_of) l_bank_of k_bank_of p_bank_of, (fun_mk (st := s_bank_of) l_bank_of k_bank_of p_bank_of).binds fun _ _ _ _ _ _ us hl => match us, hl with | [_, _], _ => rfl⟩
  case d_field_day => exact ⟨f_field_day, _, PySem.W.mg_of X G a_field_day, fun_mk (st := s_field_day) l_field_day k_field_day p_field_day, (fun_mk (st := s_field_day) l_field_day k_field_day p_field_day).binds fun _ _ _ _ _ _ us hl => match us, hl with | [_, _, _, _], _ => rfl⟩
  case d_day_of => exact ⟨f_day_of, _, PySem.W.mg_of X G a_day_of, fun_mk (st := s_day_of) l_day_of k_day_of p_day_of, (fun_mk (st := s_day_of) l_day_of k_day_of p_day_of).binds fun _ _ _ _ _ _ us hl => match us, hl with | [_, _, _], _ => rfl⟩
  case d__law_same => exact ⟨f__law_same, _, PySem.W.mg_of X G a__law_same, fun_mk (st := s__law_same) l__law_same k__law_same p__law_same, (fun_mk (st := s__law_same) l__law_same k__law_same p__law_same).binds fun _ _ _ _ _ _ us hl => match us, hl with | [_, _], _ => rfl⟩
  case d__law_mix => exact ⟨f__law_mix, _, PySem.W.mg_of X G a__law_mix, fun_mk (st := s__law_mix) l__law_mix k__law_mix p__law_mix, (fun_mk (st := s__law_mix) l__law_mix k__law_mix p__law_mix).binds fun _ _ _ _ _ _ us hl => match us, hl with | [_, _], _ => rfl⟩
  case d__law_pick => exact ⟨f__law_pick, _, PySem.W.mg_of X G a__law_pick, fun_mk (st := s__law_pick) l__law_pick k__law_pick p__law_pick, (fun_mk (st := s__law_pick) l__law_pick k__law_pick p__law_pick).binds fun _ _ _ _ _ _ us hl => match us, hl with | [_, _], _ => rfl⟩
  case d__law_some_names => exact ⟨f__law_some_names, _, PySem.W.mg_of X G a__law_some_names, fun_mk (st := s__law_some_names) l__law_some_names k__law_some_names p__law_some_names, (fun_mk (st := s__law_some_names) l__law_some_names k__law_some_names p__law_some_names).binds fun _ _ _ _ _ _ us hl => match us, hl with | [_, _], _ => rfl⟩
  case d__law_terrace => exact ⟨f__law_terrace, _, PySem.W.mg_of X G a__law_terrace, fun_mk (st := s__law_terrace) l__law_terrace k__law_terrace p__law_terrace, (fun_mk (st := s__law_terrace) l__law_terrace k__law_terrace p__law_terrace).binds fun _ _ _ _ _ _ us hl => match us, hl with | [_, _], _ => rfl⟩
  case d_stand_of => exact ⟨f_stand_of, _, PySem.W.mg_of X G a_stand_of, fun_mk (st := s_stand_of) l_stand_of k_stand_of p_stand_of, (fun_mk (st := s_stand_of) l_stand_of k_stand_of p_stand_of).binds fun _ _ _ _ _ _ us hl => match us, hl with | [_], _ => rfl⟩
  case d__law_field_row => exact ⟨f__law_field_row, _, PySem.W.mg_of X G a__law_field_row, fun_mk (st := s__law_field_row) l__law_field_row k__law_field_row p__law_field_row, (fun_mk (st := s__law_field_row) l__law_field_row k__law_field_row p__law_field_row).binds fun _ _ _ _ _ _ us hl => match us, hl with | [_, _, _, _, _], _ => rfl⟩
  case d__law_day => exact ⟨f__law_day, _, PySem.W.mg_of X G a__law_day, fun_mk (st := s__law_day) l__law_day k__law_day p__law_day, (fun_mk (st := s__law_day) l__law_day k__law_day p__law_day).binds fun _ _ _ _ _ _ us hl => match us, hl with | [_, _, _], _ => rfl⟩
  case d__law_right => exact ⟨f__law_right, _, PySem.W.mg_of X G a__law_right, fun_mk (st := s__law_right) l__law_right k__law_right p__law_right, (fun_mk (st := s__law_right) l__law_right k__law_right p__law_right).binds fun _ _ _ _ _ _ us hl => match us, hl with | [_, _], _ => rfl⟩
  case z_abs => exact PySem.W.mg_none_of X G z_abs
  case z_all => exact PySem.W.mg_none_of X G z_all
  case z_any => exact PySem.W.mg_none_of X G z_any
  case z_bool => exact PySem.W.mg_none_of X G z_bool
  case z_dict => exact PySem.W.mg_none_of X G z_dict
  case z_enumerate => exact PySem.W.mg_none_of X G z_enumerate
  case z_int => exact PySem.W.mg_none_of X G z_int
  case z_isinstance => exact PySem.W.mg_none_of X G z_isinstance
  case z_len => exact PySem.W.mg_none_of X G z_len
  case z_list => exact PySem.W.mg_none_of X G z_list
  case z_max => exact PySem.W.mg_none_of X G z_max
  case z_min => exact PySem.W.mg_none_of X G z_min
  case z_range => exact PySem.W.mg_none_of X G z_range
  case z_sorted => exact PySem.W.mg_none_of X G z_sorted
  case z_str => exact PySem.W.mg_none_of X G z_str
  case z_sum => exact PySem.W.mg_none_of X G z_sum
  case z_tuple => exact PySem.W.mg_none_of X G z_tuple
  case z_zip => exact PySem.W.mg_none_of X G z_zip
end L_k16
open PySem PySem.W PyProof.Rows
set_option maxHeartbeats 0 in
theorem PySem.Challenge.cw_wetfields_k16_stands_above_their_dykes_holds : PySem.Challenge.rw_wetfields_k16_stands_above_their_dykes.Holds := by
  w_on; o_law; k_head; (case hw => w_witness2)
  k_fill
  refine PD.top_walk (l := PySem.Challenge.rw_wetfields_k16_stands_above_their_dykes) (n := 63) (k := 13) (x := "_law_script") (F := L_k16.F_law) rfl (by decide) rfl ⟨rfl, by decide, by decide⟩ (fun w h Y => PySem.W.kIn_of Y) ?F rfl L_k16.sem_law
  case F =>
    intro w mg fa h KX G hmg
    refine' L_k16.all_mk KX G hmg ?a__law_left ?l__law_left ?k__law_left ?p__law_left ?a_below_of ?l_below_of ?k_below_of ?p_below_of ?a_way_down ?l_way_down ?k_way_down ?p_way_down ?a_lets_into ?l_lets_into ?k_lets_into ?p_lets_into ?a_bank_of ?l_bank_of ?k_bank_of ?p_bank_of ?a_field_day ?l_field_day ?k_field_day ?p_field_day ?a_day_of ?l_day_of ?k_day_of ?p_day_of ?a__law_same ?l__law_same ?k__law_same ?p__law_same ?a__law_mix ?l__law_mix ?k__law_mix ?p__law_mix ?a__law_pick ?l__law_pick ?k__law_pick ?p__law_pick ?a__law_some_names ?l__law_some_names ?k__law_some_names ?p__law_some_names ?a__law_terrace ?l__law_terrace ?k__law_terrace ?p__law_terrace ?a_stand_of ?l_stand_of ?k_stand_of ?p_stand_of ?a__law_field_row ?l__law_field_row ?k__law_field_row ?p__law_field_row ?a__law_day ?l__law_day ?k__law_day ?p__law_day ?a__law_right ?l__law_right ?k__law_right ?p__law_right ?a_law ?l_law ?k_law ?p_law ?z_abs ?z_all ?z_any ?z_bool ?z_dict ?z_enumerate ?z_int ?z_isinstance ?z_len ?z_list ?z_max ?z_min ?z_range ?z_sorted ?z_str ?z_sum ?z_tuple ?z_zip
    (case a__law_left => k_is); (case l__law_left => k_is); (case k__law_left => k_is); (case p__law_left => k_is); (case a_below_of => k_is); (case l_below_of => k_is); (case k_below_of => k_is); (case p_below_of => k_is); (case a_way_down => k_is); (case l_way_down => k_is); (case k_way_down => k_is); (case p_way_down => k_is); (case a_lets_into => k_is); (case l_lets_into => k_is); (case k_lets_into => k_is); (case p_lets_into => k_is); (case a_bank_of => k_is); (case l_bank_of => k_is); (case k_bank_of => k_is); (case p_bank_of => k_is); (case a_field_day => k_is); (case l_field_day => k_is); (case k_field_day => k_is); (case p_field_day => k_is); (case a_day_of => k_is); (case l_day_of => k_is); (case k_day_of => k_is); (case p_day_of => k_is); (case a__law_same => k_is); (case l__law_same => k_is); (case k__law_same => k_is); (case p__law_same => k_is); (case a__law_mix => k_is); (case l__law_mix => k_is); (case k__law_mix => k_is); (case p__law_mix => k_is); (case a__law_pick => k_is); (case l__law_pick => k_is); (case k__law_pick => k_is); (case p__law_pick => k_is); (case a__law_some_names => k_is); (case l__law_some_names => k_is); (case k__law_some_names => k_is); (case p__law_some_names => k_is); (case a__law_terrace => k_is); (case l__law_terrace => k_is); (case k__law_terrace => k_is); (case p__law_terrace => k_is); (case a_stand_of => k_is); (case l_stand_of => k_is); (case k_stand_of => k_is); (case p_stand_of => k_is); (case a__law_field_row => k_is); (case l__law_field_row => k_is); (case k__law_field_row => k_is); (case p__law_field_row => k_is); (case a__law_day => k_is); (case l__law_day => k_is); (case k__law_day => k_is); (case p__law_day => k_is); (case a__law_right => k_is); (case l__law_right => k_is); (case k__law_right => k_is); (case p__law_right => k_is); (case a_law => k_is); (case l_law => k_is); (case k_law => k_is); (case p_law => k_is); (case z_abs => k_is); (case z_all => k_is); (case z_any => k_is); (case z_bool => k_is); (case z_dict => k_is); (case z_enumerate => k_is); (case z_int => k_is); (case z_isinstance => k_is); (case z_len => k_is); (case z_list => k_is); (case z_max => k_is); (case z_min => k_is); (case z_range => k_is); (case z_sorted => k_is); (case z_str => k_is); (case z_sum => k_is); (case z_tuple => k_is); (case z_zip => k_is)
