import PyProof.Rows.All
import Wide.All
import OpenK.AllK
import Wide.FinOn
import HandS.ForMost
import HandS.Style
import HandS.Zip
import HandS.IsInst
import HandS.TupAny
import HandS.Walk
import HandS.Wide
import HandS.TupMul
import HandS.Sort
import HandS.Deep
import HandS.RaiseMore
import HandS.Remove
import HandS.SetFor
import HandS.Text
import PyProof.Rows.RegReprOcc
import PySem.Challenge.RW_wetfields_k01_names
set_option Elab.async false
set_option linter.all false
set_option maxRecDepth 100000
set_option maxHeartbeats 4000000
namespace PD
open PySem PySem.Spec PyProof.Rows L2

/-- plain data -/
inductive D where
  | non | bl (b : Bool) | int (i : Int) | str (x : Str)
  | tup (ds : List D) | lst (ds : List D)
  | dk (es : List (Key × D)) | dt (es : List (List Key × D))
  /-- the script: read, never changed -/
  | sc (ns : List Int)
  /-- a built-in class -/
  | ty (n : String)
  /-- a text that is told of data -/
  | txt (x : Str)

/-- a tuple that was made -/
def TuT (_ : PySem.W.Frag) (B : Hp) (a : Addr) (xs : List V) : Prop := B a = some (.tup xs)
theorem TuT.sq {K : PySem.W.Frag} {B : Hp} {a : Addr} {xs : List V} (h : TuT K B a xs) : SqT K B a xs := .inl (.inl h)
theorem TuT.same {K : PySem.W.Frag} {B B' : Hp} {a : Addr} {xs : List V} (s : Same B B') (h : TuT K B a xs) : TuT K B' a xs := s _ _ h
mutual
/-- the value v stands for d, all of it in the frozen part B -/
inductive Rp (K : PySem.W.Frag) (B : Hp) : D → V → Prop
  | non : Rp K B .non .non
  | bl (b : Bool) : Rp K B (.bl b) (.bl b)
  | int (i : Int) : Rp K B (.int i) (.int i)
  | str (x : Str) (h : PyData.strOk x = true) : Rp K B (.str x) (.str x)
  | ty (n : String) : Rp K B (.ty n) (.ty n)
  | txt (x : Str) : Rp K B (.txt x) (.str x)
  | tup {a : Addr} {xs : List V} {ds : List D} : TuT K B a xs → Rps K B ds xs → Rp K B (.tup ds) (.ref a)
  | lst {a : Addr} {xs : List V} {ds : List D} : B a = some (.lst xs) → Rps K B ds xs → Rp K B (.lst ds) (.ref a)
  | sc {a : Addr} {ns : List Int} : SqL K B a (ns.map V.int) → Rp K B (.sc ns) (.ref a)
  | dk {a : Addr} {kvs : List (Key × V)} {es : List (Key × D)} : B a = some (.dK kvs) → es.map (·.1) = kvs.map (·.1) → Rps K B (es.map (·.2)) (kvs.map (·.2)) → Rp K B (.dk es) (.ref a)
  | dt {a : Addr} {kvs : List (List Key × V)} {es : List (List Key × D)} : B a = some (.dT kvs) → es.map (·.1) = kvs.map (·.1) → Rps K B (es.map (·.2)) (kvs.map (·.2)) → Rp K B (.dt es) (.ref a)
inductive Rps (K : PySem.W.Frag) (B : Hp) : List D → List V → Prop
  | nil : Rps K B [] []
  | cons {d : D} {v : V} {ds : List D} {vs : List V} : Rp K B d v → Rps K B ds vs → Rps K B (d :: ds) (v :: vs)
end

theorem sameL {K : PySem.W.Frag} {B B' : Hp} {a : Addr} {xs : List V} (s : Same B B') (h : SqL K B a xs) : SqL K B' a xs := s.seq h
theorem sameT {K : PySem.W.Frag} {B B' : Hp} {a : Addr} {xs : List V} (s : Same B B') (h : SqT K B a xs) : SqT K B' a xs := by
  rcases h with (h | ⟨o, h⟩) | h
  · exact .inl (.inl (s _ _ h))
  · exact .inl (.inr ⟨o, s _ _ h⟩)
  · exact .inr h

mutual
theorem Rp.mono {K : PySem.W.Frag} {B B' : Hp} (s : Same B B') : ∀ {d : D} {v : V}, Rp K B d v → Rp K B' d v
  | _, _, .non => .non
  | _, _, .bl b => .bl b
  | _, _, .int i => .int i
  | _, _, .str x h => .str x h
  | _, _, .ty n => .ty n
  | _, _, .txt x => .txt x
  | _, _, .tup h r => .tup (h.same s) (Rps.mono s r)
  | _, _, .lst h r => .lst (s _ _ h) (Rps.mono s r)
  | _, _, .sc h => .sc (sameL s h)
  | _, _, .dk h e r => .dk (s _ _ h) e (Rps.mono s r)
  | _, _, .dt h e r => .dt (s _ _ h) e (Rps.mono s r)
theorem Rps.mono {K : PySem.W.Frag} {B B' : Hp} (s : Same B B') : ∀ {ds : List D} {vs : List V}, Rps K B ds vs → Rps K B' ds vs
  | _, _, .nil => .nil
  | _, _, .cons h r => .cons (Rp.mono s h) (Rps.mono s r)
end

section
variable {K : PySem.W.Frag} {B : Hp}
theorem Rps.length : ∀ {ds : List D} {vs : List V}, Rps K B ds vs → ds.length = vs.length
  | _, _, .nil => rfl
  | _, _, .cons _ r => by rw [List.length_cons, List.length_cons, Rps.length r]
theorem Rps.get : ∀ {ds : List D} {vs : List V} {i : Nat} {d : D}, Rps K B ds vs → ds[i]? = some d → ∃ v, vs[i]? = some v ∧ Rp K B d v
  | _, _, _, _, .nil, e => by simp at e
  | _, _, 0, _, .cons r _, e => by
    simp at e
    subst e
    exact ⟨_, rfl, r⟩
  | _, _, i + 1, d, .cons _ t, e => by
    obtain ⟨v, h1, h2⟩ := Rps.get (i := i) (d := d) t (by simpa using e)
    exact ⟨v, by simpa using h1, h2⟩
theorem Rps.getV : ∀ {ds : List D} {vs : List V} {i : Nat} {v : V}, Rps K B ds vs → vs[i]? = some v → ∃ d, ds[i]? = some d ∧ Rp K B d v
  | _, _, _, _, .nil, e => by simp at e
  | _, _, 0, _, .cons r _, e => by
    simp at e
    subst e
    exact ⟨_, rfl, r⟩
  | _, _, i + 1, v, .cons _ t, e => by
    obtain ⟨d, h1, h2⟩ := Rps.getV (i := i) (v := v) t (by simpa using e)
    exact ⟨d, by simpa using h1, h2⟩
theorem Rps.app : ∀ {ds es : List D} {vs us : List V}, Rps K B ds vs → Rps K B es us → Rps K B (ds ++ es) (vs ++ us)
  | _, _, _, _, .nil, s => s
  | _, _, _, _, .cons r t, s => .cons r (Rps.app t s)
theorem Rps.take : ∀ {ds : List D} {vs : List V} (n : Nat), Rps K B ds vs → Rps K B (ds.take n) (vs.take n)
  | _, _, 0, _ => .nil
  | _, _, _ + 1, .nil => .nil
  | _, _, n + 1, .cons r t => .cons r (Rps.take n t)
theorem Rps.drop : ∀ {ds : List D} {vs : List V} (n : Nat), Rps K B ds vs → Rps K B (ds.drop n) (vs.drop n)
  | _, _, 0, r => r
  | _, _, _ + 1, .nil => .nil
  | _, _, n + 1, .cons _ t => Rps.drop n t
theorem Rps.set {d : D} {v : V} (r : Rp K B d v) : ∀ {ds : List D} {vs : List V} (i : Nat), Rps K B ds vs → Rps K B (ds.set i d) (vs.set i v)
  | _, _, _, .nil => .nil
  | _, _, 0, .cons _ t => .cons r t
  | _, _, i + 1, .cons q t => .cons q (Rps.set r i t)
theorem Rps.erase : ∀ {ds : List D} {vs : List V} (i : Nat), Rps K B ds vs → Rps K B (ds.eraseIdx i) (vs.eraseIdx i)
  | _, _, _, .nil => .nil
  | _, _, 0, .cons _ t => t
  | _, _, i + 1, .cons q t => .cons q (Rps.erase i t)
theorem Rps.rev : ∀ {ds : List D} {vs : List V}, Rps K B ds vs → Rps K B ds.reverse vs.reverse
  | _, _, .nil => .nil
  | _, _, .cons r t => by
    rw [List.reverse_cons, List.reverse_cons]
    exact Rps.app (Rps.rev t) (.cons r .nil)
theorem Rps.one {d : D} {v : V} (r : Rp K B d v) : Rps K B [d] [v] := .cons r .nil
theorem Rps.repl {ds : List D} {vs : List V} (r : Rps K B ds vs) : ∀ n : Nat, Rps K B (List.replicate n ds).flatten (List.replicate n vs).flatten
  | 0 => .nil
  | n + 1 => by
    rw [List.replicate_succ, List.replicate_succ, List.flatten_cons, List.flatten_cons]
    exact Rps.app r (Rps.repl r n)
theorem Rps.ints : ∀ {ns : List Int} {vs : List V}, Rps K B (ns.map D.int) vs → vs = ns.map V.int
  | [], _, .nil => rfl
  | n :: ns, _, .cons h r => by
    cases h
    rw [List.map_cons, Rps.ints r]
theorem Rps.of_ints : ∀ ns : List Int, Rps K B (ns.map D.int) (ns.map V.int)
  | [] => .nil
  | n :: ns => .cons (.int n) (Rps.of_ints ns)
theorem Rps.bls : ∀ {bs : List Bool} {vs : List V}, Rps K B (bs.map D.bl) vs → vs = bs.map V.bl
  | [], _, .nil => rfl
  | n :: ns, _, .cons h r => by
    cases h
    rw [List.map_cons, Rps.bls r]
theorem Rps.strs : ∀ {xs : List Str} {vs : List V}, Rps K B (xs.map D.str) vs → vs = xs.map V.str
  | [], _, .nil => rfl
  | n :: ns, _, .cons h r => by
    cases h
    rw [List.map_cons, Rps.strs r]
theorem Rps.strs_ok : ∀ {xs : List Str} {vs : List V}, Rps K B (xs.map D.str) vs → ∀ x ∈ xs, PyData.strOk x = true
  | [], _, .nil, _, h => by simp at h
  | n :: ns, _, .cons h r, x, hx => by
    cases h with
    | str _ ho =>
      rcases List.mem_cons.mp hx with rfl | hx
      · exact ho
      · exact Rps.strs_ok r x hx
end

/-! ### slots -/
inductive Sl where
  /-- nothing known -/
  | em
  /-- frozen data -/
  | im (d : D)
  /-- a list or dict of this def's own, held by this slot alone -/
  | ow (d : D)
  /-- a list or dict of the caller's, handed in to be changed -/
  | io (j : Nat) (d : D)
abbrev Env := List Sl

/-- where a def began: the heap, its frozen part, the caller's things that it may change -/
structure Anc where
  H0 : Hp
  B0 : Hp
  io : Nat → Option Addr
def Anc.isIo (A : Anc) (a : Addr) : Prop := ∃ j, A.io j = some a

/-- what stands at an address is the container d -/
inductive Cont (K : PySem.W.Frag) (B : Hp) : D → Option HO → Prop
  | lst {xs : List V} {ds : List D} : Rps K B ds xs → Cont K B (.lst ds) (some (.lst xs))
  | dk {kvs : List (Key × V)} {es : List (Key × D)} : es.map (·.1) = kvs.map (·.1) → Rps K B (es.map (·.2)) (kvs.map (·.2)) → Cont K B (.dk es) (some (.dK kvs))
  | dt {kvs : List (List Key × V)} {es : List (List Key × D)} : es.map (·.1) = kvs.map (·.1) → Rps K B (es.map (·.2)) (kvs.map (·.2)) → Cont K B (.dt es) (some (.dT kvs))
theorem Cont.mono {K : PySem.W.Frag} {B B' : Hp} (s : Same B B') {d : D} {o : Option HO} (h : Cont K B d o) : Cont K B' d o := by
  cases h with
  | lst r => exact .lst (r.mono s)
  | dk e r => exact .dk e (r.mono s)
  | dt e r => exact .dt e (r.mono s)
theorem Cont.some {K : PySem.W.Frag} {B : Hp} {d : D} {o : Option HO} (h : Cont K B d o) : ∃ u, o = some u := by
  cases h <;> exact ⟨_, rfl⟩
theorem Cont.frozen {K : PySem.W.Frag} {B B' : Hp} (s : Same B B') {d : D} {o : Option HO} {p : Addr} (h : Cont K B d o) (e : B' p = o) : Rp K B' d (.ref p) := by
  cases h with
  | lst r => exact .lst e (r.mono s)
  | dk e1 r => exact .dk e e1 (r.mono s)
  | dt e1 r => exact .dt e e1 (r.mono s)

def Sl.mut : Sl → Bool
  | .ow _ => true
  | .io _ _ => true
  | _ => false
inductive SlOk (K : PySem.W.Frag) (A : Anc) (B H : Hp) : Sl → Option V → Prop
  | em {o : Option V} : SlOk K A B H .em o
  | im {d : D} {v : V} : Rp K B d v → SlOk K A B H (.im d) (some v)
  | ow {d : D} {p : Addr} : B p = none → A.H0 p = none → Cont K B d (H p) → SlOk K A B H (.ow d) (some (.ref p))
  | io {d : D} {p : Addr} {j : Nat} : A.io j = some p → Cont K B d (H p) → SlOk K A B H (.io j d) (some (.ref p))

structure SR (K : PySem.W.Frag) (A : Anc) (B H : Hp) (σ : L2.St) (env : Env) : Prop where
  len : σ.length = env.length
  same : Same B H
  slot : ∀ (i : Nat) (sl : Sl) (ov : Option V), env[i]? = some sl → σ[i]? = some ov → SlOk K A B H sl ov
  inj : ∀ (i j : Nat) (p : Addr) (sl sl' : Sl), i ≠ j → env[i]? = some sl → env[j]? = some sl' → sl.mut = true → sl'.mut = true → σ[i]? = some (some (.ref p)) → σ[j]? = some (some (.ref p)) → False
  anc : ∀ a o, A.H0 a = some o → ¬ A.isIo a → H a = some o ∧ B a = A.B0 a
  iob : ∀ a, A.isIo a → B a = none ∧ ∃ o, H a = some o
  ioh : ∀ a, A.isIo a → ∃ o, A.H0 a = some o

section
variable {K : PySem.W.Frag} {A : Anc} {B H : Hp} {σ : L2.St} {env : Env}
/-- an address that nothing is tracked at is new to the def -/
theorem SR.new (S : SR K A B H σ env) {p : Addr} (h : H p = none) : B p = none ∧ A.H0 p = none ∧ ¬ A.isIo p := by
  have h1 : ¬ A.isIo p := fun z => by
    obtain ⟨_, o, e⟩ := S.iob p z
    rw [h] at e
    cases e
  refine ⟨S.same.free h, ?_, h1⟩
  cases e : A.H0 p with
  | none => rfl
  | some o =>
    have := (S.anc p o e h1).1
    rw [h] at this
    cases this
theorem SlOk.grow {sl : Sl} {ov : Option V} {B' H' : Hp} (s : SlOk K A B H sl ov) (hB : Same B B') (hH : ∀ p d, ov = some (.ref p) → sl.mut = true → Cont K B d (H p) → H' p = H p) (hN : ∀ p, ov = some (.ref p) → sl.mut = true → B p = none → B' p = none) : SlOk K A B' H' sl ov := by
  cases s with
  | em => exact .em
  | im r => exact .im (r.mono hB)
  | ow b h c =>
    refine .ow (hN _ rfl rfl b) h ?_
    rw [hH _ _ rfl rfl c]
    exact c.mono hB
  | io h c =>
    refine .io h ?_
    rw [hH _ _ rfl rfl c]
    exact c.mono hB
theorem SlOk.held {sl : Sl} {ov : Option V} (s : SlOk K A B H sl ov) (m : sl.mut = true) : ∃ p d o, ov = some (.ref p) ∧ (sl = .ow d ∨ ∃ j, sl = .io j d) ∧ H p = some o ∧ Cont K B d (some o) := by
  cases s with
  | em => cases m
  | im _ => cases m
  | ow b h c =>
    obtain ⟨o, e⟩ := c.some
    exact ⟨_, _, o, rfl, .inl rfl, e, by rw [← e]; exact c⟩
  | io h c =>
    obtain ⟨o, e⟩ := c.some
    exact ⟨_, _, o, rfl, .inr ⟨_, rfl⟩, e, by rw [← e]; exact c⟩
/-- a new object, not frozen -/
theorem SR.laid (S : SR K A B H σ env) {p : Addr} {o : HO} (h : H p = none) : SR K A B (upd H p o) σ env := by
  obtain ⟨b, h0, hio⟩ := S.new h
  refine ⟨S.len, fun a u e => ?_, fun i sl ov e1 e2 => ?_, S.inj, fun a u e n => ?_, fun a n => ?_, S.ioh⟩
  · have := S.same a u e
    rw [upd_ne (ne_of_none this h)]
    exact this
  · have s := S.slot i sl ov e1 e2
    refine s.grow (Same.refl _) (fun q d e m c => ?_) (fun _ _ _ z => z)
    obtain ⟨u, hu⟩ := c.some
    exact upd_ne (ne_of_none hu h)
  · obtain ⟨e1, e2⟩ := S.anc a u e n
    exact ⟨by rw [upd_ne (ne_of_none e1 h)]; exact e1, e2⟩
  · obtain ⟨b', u, e⟩ := S.iob a n
    exact ⟨b', u, by rw [upd_ne (ne_of_none e h)]; exact e⟩
/-- an object of this def's own that no slot holds is frozen -/
theorem SR.freeze (S : SR K A B H σ env) {p : Addr} {o : HO} (h : H p = some o) (b : B p = none) (h0 : A.H0 p = none) (hs : ∀ (i : Nat) (sl : Sl), env[i]? = some sl → sl.mut = true → σ[i]? ≠ some (some (V.ref p))) : SR K A (upd B p o) H σ env := by
  have hB : Same B (upd B p o) := fun a u e => by
    rw [upd_ne (ne_of_none e b)]
    exact e
  have nio : ¬ A.isIo p := fun z => by
    obtain ⟨u, e⟩ := S.ioh p z
    rw [h0] at e
    cases e
  refine ⟨S.len, fun a u e => ?_, fun i sl ov e1 e2 => ?_, S.inj, fun a u e n => ?_, fun a n => ?_, S.ioh⟩
  · by_cases ha : a = p
    · subst ha
      rw [upd_same] at e
      cases e
      exact h
    · rw [upd_ne ha] at e
      exact S.same a u e
  · have s := S.slot i sl ov e1 e2
    refine s.grow hB (fun _ _ _ _ _ => rfl) (fun q e m z => ?_)
    have : q ≠ p := fun z => hs i sl e1 m (by rw [e2, e, z])
    rw [upd_ne this]
    exact z
  · obtain ⟨e1, e2⟩ := S.anc a u e n
    have : a ≠ p := fun z => by
      rw [z, h0] at e
      cases e
    exact ⟨e1, by rw [upd_ne this]; exact e2⟩
  · obtain ⟨b', u⟩ := S.iob a n
    have : a ≠ p := fun z => nio (z ▸ n)
    exact ⟨by rw [upd_ne this]; exact b', u⟩
/-- a new object is frozen at once -/
theorem SR.laidF (S : SR K A B H σ env) {p : Addr} {o : HO} (h : H p = none) : SR K A (upd B p o) (upd H p o) σ env ∧ Same B (upd B p o) := by
  obtain ⟨b, h0, _⟩ := S.new h
  refine ⟨(S.laid h).freeze upd_same b h0 fun i sl e m z => ?_, fun a u e => ?_⟩
  · obtain ⟨q, d, u, e1, _, e2, _⟩ := (S.slot i sl _ e z).held m
    cases e1
    rw [h] at e2
    cases e2
  · rw [upd_ne (ne_of_none e b)]
    exact e
/-- a held slot more, behind all -/
theorem SR.push (S : SR K A B H σ env) {p : Addr} {o : HO} {d : D} (h : H p = none) (c : Cont K B d (some o)) : SR K A B (upd H p o) (σ ++ [some (.ref p)]) (env ++ [.ow d]) := by
  obtain ⟨b, h0, hio⟩ := S.new h
  have S1 := S.laid (o := o) h
  have old : ∀ (i : Nat) (sl : Sl), env[i]? = some sl → sl.mut = true → σ[i]? ≠ some (some (V.ref p)) := fun i sl e m z => by
    obtain ⟨q, d, u, e1, _, e2, _⟩ := (S.slot i sl _ e z).held m
    cases e1
    rw [h] at e2
    cases e2
  have ge : ∀ i sl, (env ++ [Sl.ow d])[i]? = some sl → (env[i]? = some sl ∧ i < env.length) ∨ (i = env.length ∧ sl = .ow d) := fun i sl e => by
    by_cases hi : i < env.length
    · rw [List.getElem?_append_left hi] at e
      exact .inl ⟨e, hi⟩
    · rw [List.getElem?_append_right (by omega)] at e
      obtain ⟨h1, h2⟩ := List.getElem?_eq_some_iff.mp e
      have h3 : i - env.length = 0 := by simpa using h1
      refine .inr ⟨by omega, ?_⟩
      simp [h3] at h2
      exact h2.symm
  have gs : ∀ i, i < env.length → (σ ++ [some (V.ref p)])[i]? = σ[i]? := fun i hi => List.getElem?_append_left (by rw [S.len]; exact hi)
  have gl : (σ ++ [some (V.ref p)])[env.length]? = some (some (.ref p)) := by
    rw [← S.len]
    simp
  refine ⟨by simp [S.len], S1.same, fun i sl ov e1 e2 => ?_, fun i j q sl sl' ne e1 e2 m1 m2 e3 e4 => ?_, S1.anc, S1.iob, S1.ioh⟩
  · rcases ge i sl e1 with ⟨e, hi⟩ | ⟨rfl, rfl⟩
    · rw [gs i hi] at e2
      exact S1.slot i sl ov e e2
    · rw [gl] at e2
      cases e2
      exact .ow b h0 (by rw [upd_same]; exact c)
  · rcases ge i sl e1 with ⟨e, hi⟩ | ⟨rfl, rfl⟩
    · rw [gs i hi] at e3
      rcases ge j sl' e2 with ⟨e', hj⟩ | ⟨rfl, rfl⟩
      · rw [gs j hj] at e4
        exact S.inj i j q sl sl' ne e e' m1 m2 e3 e4
      · rw [gl] at e4
        cases e4
        exact old i sl e m1 e3
    · rw [gl] at e3
      cases e3
      rcases ge j sl' e2 with ⟨e', hj⟩ | ⟨rfl, rfl⟩
      · rw [gs j hj] at e4
        exact old j sl' e' m2 e4
      · exact ne rfl
/-- fewer slots -/
theorem SR.front {σ2 : L2.St} {env2 : Env} (S : SR K A B H (σ ++ σ2) (env ++ env2)) (hl : σ.length = env.length) : SR K A B H σ env := by
  have ge : ∀ i sl, env[i]? = some sl → (env ++ env2)[i]? = some sl := fun i sl e => by
    rw [List.getElem?_append_left (List.getElem?_eq_some_iff.mp e).1]
    exact e
  have gs : ∀ i ov, σ[i]? = some ov → (σ ++ σ2)[i]? = some ov := fun i ov e => by
    rw [List.getElem?_append_left (List.getElem?_eq_some_iff.mp e).1]
    exact e
  exact ⟨hl, S.same, fun i sl ov e1 e2 => S.slot i sl ov (ge _ _ e1) (gs _ _ e2), fun i j p sl sl' ne e1 e2 m1 m2 e3 e4 => S.inj i j p sl sl' ne (ge _ _ e1) (ge _ _ e2) m1 m2 (gs _ _ e3) (gs _ _ e4), S.anc, S.iob, S.ioh⟩
/-- a slot is set to frozen data, or forgotten -/
theorem SR.setIm (S : SR K A B H σ env) {i : Nat} {v : V} {d : D} (r : Rp K B d v) : SR K A B H (σ.set i (some v)) (env.set i (.im d)) := by
  refine ⟨by simp [S.len], S.same, fun j sl ov e1 e2 => ?_, fun j k p sl sl' ne e1 e2 m1 m2 e3 e4 => ?_, S.anc, S.iob, S.ioh⟩
  · by_cases hj : i = j
    · subst hj
      have h1 : i < (env.set i (.im d)).length := (List.getElem?_eq_some_iff.mp e1).1
      have h2 : i < env.length := by simpa using h1
      rw [List.getElem?_set_self h2] at e1
      rw [List.getElem?_set_self (by rw [S.len]; exact h2)] at e2
      cases e1
      cases e2
      exact .im r
    · rw [List.getElem?_set_ne hj] at e1 e2
      exact S.slot j sl ov e1 e2
  · have key : ∀ j sl, (env.set i (Sl.im d))[j]? = some sl → sl.mut = true → i ≠ j ∧ env[j]? = some sl := fun j sl e m => by
      by_cases hj : i = j
      · subst hj
        have h1 : i < (env.set i (.im d)).length := (List.getElem?_eq_some_iff.mp e).1
        rw [List.getElem?_set_self (by simpa using h1)] at e
        cases e
        cases m
      · rw [List.getElem?_set_ne hj] at e
        exact ⟨hj, e⟩
    obtain ⟨n1, f1⟩ := key j sl e1 m1
    obtain ⟨n2, f2⟩ := key k sl' e2 m2
    rw [List.getElem?_set_ne n1] at e3
    rw [List.getElem?_set_ne n2] at e4
    exact S.inj j k p sl sl' ne f1 f2 m1 m2 e3 e4
theorem SR.setEm (S : SR K A B H σ env) {i : Nat} {ov : Option V} : SR K A B H (σ.set i ov) (env.set i .em) := by
  refine ⟨by simp [S.len], S.same, fun j sl ov' e1 e2 => ?_, fun j k p sl sl' ne e1 e2 m1 m2 e3 e4 => ?_, S.anc, S.iob, S.ioh⟩
  · by_cases hj : i = j
    · subst hj
      have h1 : i < (env.set i .em).length := (List.getElem?_eq_some_iff.mp e1).1
      rw [List.getElem?_set_self (by simpa using h1)] at e1
      cases e1
      exact .em
    · rw [List.getElem?_set_ne hj] at e1 e2
      exact S.slot j sl ov' e1 e2
  · have key : ∀ j sl, (env.set i Sl.em)[j]? = some sl → sl.mut = true → i ≠ j ∧ env[j]? = some sl := fun j sl e m => by
      by_cases hj : i = j
      · subst hj
        have h1 : i < (env.set i .em).length := (List.getElem?_eq_some_iff.mp e).1
        rw [List.getElem?_set_self (by simpa using h1)] at e
        cases e
        cases m
      · rw [List.getElem?_set_ne hj] at e
        exact ⟨hj, e⟩
    obtain ⟨n1, f1⟩ := key j sl e1 m1
    obtain ⟨n2, f2⟩ := key k sl' e2 m2
    rw [List.getElem?_set_ne n1] at e3
    rw [List.getElem?_set_ne n2] at e4
    exact S.inj j k p sl sl' ne f1 f2 m1 m2 e3 e4
/-- the slots at two places of the list change places: only what stands matters -/
theorem SR.sub {σ' : L2.St} {env' : Env} (S : SR K A B H σ env) (hl : σ'.length = env'.length) (f : Nat → Nat) (hf : ∀ i j sl sl', env'[i]? = some sl → env'[j]? = some sl' → sl.mut = true → sl'.mut = true → f i = f j → i = j)
    (he : ∀ i sl, env'[i]? = some sl → sl ≠ .em → env[f i]? = some sl ∧ σ'[i]? = σ[f i]?) : SR K A B H σ' env' := by
  refine ⟨hl, S.same, fun i sl ov e1 e2 => ?_, fun i j p sl sl' ne e1 e2 m1 m2 e3 e4 => ?_, S.anc, S.iob, S.ioh⟩
  · cases sl with
    | em => exact .em
    | im d =>
      obtain ⟨h1, h2⟩ := he i _ e1 (by simp)
      exact S.slot (f i) _ ov h1 (by rw [← h2]; exact e2)
    | ow d =>
      obtain ⟨h1, h2⟩ := he i _ e1 (by simp)
      exact S.slot (f i) _ ov h1 (by rw [← h2]; exact e2)
    | io d =>
      obtain ⟨h1, h2⟩ := he i _ e1 (by simp)
      exact S.slot (f i) _ ov h1 (by rw [← h2]; exact e2)
  · have n1 : sl ≠ .em := fun z => by subst z; cases m1
    have n2 : sl' ≠ .em := fun z => by subst z; cases m2
    obtain ⟨h1, h2⟩ := he i _ e1 n1
    obtain ⟨h3, h4⟩ := he j _ e2 n2
    refine S.inj (f i) (f j) p sl sl' (fun z => ne (hf i j sl sl' e1 e2 m1 m2 z)) h1 h3 m1 m2 (by rw [← h2]; exact e3) (by rw [← h4]; exact e4)
/-- the container that a slot holds is written -/
theorem SR.write (S : SR K A B H σ env) {i : Nat} {p : Addr} {sl sl' : Sl} {o : HO} {d d' : D} (he : env[i]? = some sl) (hs : (sl = .ow d ∧ sl' = .ow d') ∨ (∃ j, sl = .io j d ∧ sl' = .io j d')) (hv : σ[i]? = some (some (.ref p))) (c : Cont K B d' (some o)) :
    SR K A B (upd H p o) σ (env.set i sl') := by
  have hi : i < env.length := (List.getElem?_eq_some_iff.mp he).1
  have m : sl.mut = true := by rcases hs with ⟨rfl, rfl⟩ | ⟨j0, rfl, rfl⟩ <;> rfl
  have bp : B p = none := by
    have s := S.slot i sl _ he hv
    rcases hs with ⟨rfl, rfl⟩ | ⟨j0, rfl, rfl⟩
    · cases s with
      | ow b _ _ => exact b
    · cases s with
      | io h _ => exact (S.iob p ⟨_, h⟩).1
  have old : ∀ (j : Nat) (sl2 : Sl), j ≠ i → env[j]? = some sl2 → sl2.mut = true → σ[j]? ≠ some (some (V.ref p)) := fun j sl2 ne e m2 z => S.inj j i p sl2 sl ne e he m2 m z hv
  have gi : ∀ j sl2, (env.set i sl')[j]? = some sl2 → (j = i ∧ sl2 = sl') ∨ (j ≠ i ∧ env[j]? = some sl2) := fun j sl2 e => by
    by_cases hj : i = j
    · subst hj
      rw [List.getElem?_set_self hi] at e
      cases e
      exact .inl ⟨rfl, rfl⟩
    · rw [List.getElem?_set_ne hj] at e
      exact .inr ⟨fun z => hj z.symm, e⟩
  refine ⟨by simp [S.len], fun a u e => ?_, fun j sl2 ov e1 e2 => ?_, fun j k q s1 s2 ne e1 e2 m1 m2 e3 e4 => ?_, fun a u e n => ?_, fun a n => ?_, S.ioh⟩
  · rw [upd_ne (ne_of_none e bp)]
    exact S.same a u e
  · rcases gi j sl2 e1 with ⟨rfl, rfl⟩ | ⟨ne, e⟩
    · rw [hv] at e2
      cases e2
      have s := S.slot j sl _ he hv
      rcases hs with ⟨rfl, rfl⟩ | ⟨j0, rfl, rfl⟩
      · cases s with
        | ow b h _ => exact .ow b h (by rw [upd_same]; exact c)
      · cases s with
        | io h _ => exact .io h (by rw [upd_same]; exact c)
    · refine (S.slot j sl2 ov e e2).grow (Same.refl _) (fun q d eo m2 _ => ?_) (fun _ _ _ z => z)
      exact upd_ne fun z => old j sl2 ne e m2 (by rw [e2, eo, z])
  · have mm : sl'.mut = true := by rcases hs with ⟨rfl, rfl⟩ | ⟨j0, rfl, rfl⟩ <;> rfl
    rcases gi j s1 e1 with ⟨rfl, rfl⟩ | ⟨n1, f1⟩
    · rcases gi k s2 e2 with ⟨rfl, rfl⟩ | ⟨n2, f2⟩
      · exact ne rfl
      · exact S.inj j k q sl s2 ne he f2 m m2 e3 e4
    · rcases gi k s2 e2 with ⟨rfl, rfl⟩ | ⟨n2, f2⟩
      · exact S.inj j k q s1 sl ne f1 he m1 m e3 e4
      · exact S.inj j k q s1 s2 ne f1 f2 m1 m2 e3 e4
  · have ne : a ≠ p := fun z => by
      subst z
      have s := S.slot i sl _ he hv
      rcases hs with ⟨rfl, rfl⟩ | ⟨j0, rfl, rfl⟩
      · cases s with
        | ow _ h _ =>
          rw [h] at e
          cases e
      · cases s with
        | io h _ => exact n ⟨_, h⟩
    obtain ⟨e1, e2⟩ := S.anc a u e n
    exact ⟨by rw [upd_ne ne]; exact e1, e2⟩
  · obtain ⟨b', u, e⟩ := S.iob a n
    by_cases ha : a = p
    · subst ha
      exact ⟨b', o, upd_same⟩
    · exact ⟨b', u, by rw [upd_ne ha]; exact e⟩
/-- a slot's own container is frozen where it stands -/
theorem SR.freezeAt (S : SR K A B H σ env) {i : Nat} {p : Addr} {d : D} (he : env[i]? = some (.ow d)) (hv : σ[i]? = some (some (.ref p))) :
    ∃ o, H p = some o ∧ SR K A (upd B p o) H σ (env.set i (.im d)) ∧ Same B (upd B p o) ∧ Rp K (upd B p o) d (.ref p) := by
  have hi : i < env.length := (List.getElem?_eq_some_iff.mp he).1
  cases S.slot i _ _ he hv with
  | ow b h0 c =>
    obtain ⟨o, ho⟩ := c.some
    have hB : Same B (upd B p o) := fun a u e => by
      rw [upd_ne (ne_of_none e b)]
      exact e
    have S1 : SR K A B H σ (env.set i .em) := by
      have := S.setEm (i := i) (ov := some (.ref p))
      have e : σ.set i (some (V.ref p)) = σ := by
        apply List.ext_getElem?
        intro j
        by_cases hj : i = j
        · subst hj
          rw [List.getElem?_set_self (by rw [S.len]; exact hi), hv]
        · rw [List.getElem?_set_ne hj]
      rw [e] at this
      exact this
    have S2 : SR K A (upd B p o) H σ (env.set i .em) := by
      refine S1.freeze ho b h0 fun j sl e m z => ?_
      by_cases hj : i = j
      · subst hj
        rw [List.getElem?_set_self hi] at e
        cases e
        cases m
      · rw [List.getElem?_set_ne hj] at e
        exact S.inj j i p sl _ (fun z => hj z.symm) e he m rfl z hv
    have r : Rp K (upd B p o) d (.ref p) := by
      rw [ho] at c
      exact c.frozen hB upd_same
    refine ⟨o, ho, ?_, hB, r⟩
    have S3 := S2.setIm (i := i) r
    have e : σ.set i (some (V.ref p)) = σ := by
      apply List.ext_getElem?
      intro j
      by_cases hj : i = j
      · subst hj
        rw [List.getElem?_set_self (by rw [S.len]; exact hi), hv]
      · rw [List.getElem?_set_ne hj]
    rw [e, List.set_set] at S3
    exact S3
end
end PD
namespace PD
open PySem PySem.Spec PyProof.Rows L2

/-- what an expression gives: frozen data; a new list or dict that nobody else holds; the container that a slot holds -/
inductive Vl where
  | im (d : D) | fr (d : D) | bo (i : Nat)
abbrev M (α : Type) := Env → Option (α × Env)
def rt {α : Type} (a : α) : M α := fun e => some (a, e)
def bd {α β : Type} (m : M α) (f : α → M β) : M β := fun e => match m e with
  | some (a, e') => f a e'
  | none => none
def Vl.hold : Vl → Vl
  | .fr d => .im d
  | v => v
/-- a value's content now -/
def cnt (e : Env) : Vl → Option D
  | .im d => some d
  | .fr d => some d
  | .bo i => match e[i]? with
    | some (.im d) => some d
    | some (.ow d) => some d
    | some (.io _ d) => some d
    | _ => none
def cnts (e : Env) : List Vl → Option (List D)
  | [] => some []
  | v :: r => match cnt e v, cnts e r with
    | some d, some ds => some (d :: ds)
    | _, _ => none
/-- .. frozen for good -/
def frz : Vl → M D
  | .im d => rt d
  | .fr d => rt d
  | .bo i => fun e => match e[i]? with
    | some (.im d) => some (d, e)
    | some (.ow d) => some (d, e.set i (.im d))
    | _ => none
def frzs : List Vl → M (List D)
  | [] => rt []
  | v :: r => bd (frz v) fun d => bd (frzs r) fun ds => rt (d :: ds)

section
variable (K : PySem.W.Frag) (A : Anc)
/-- a value stands for what is known of it -/
def VR (B H : Hp) (σ τ : L2.St) (env pe : Env) : Vl → V → Prop
  | .im d, v => SR K A B H (σ ++ τ) (env ++ pe) ∧ Rp K B d v
  | .fr d, v => SR K A B H (σ ++ τ ++ [some v]) (env ++ pe ++ [.ow d])
  | .bo i, v => SR K A B H (σ ++ τ) (env ++ pe) ∧ σ[i]? = some (some v)
def Hv (B : Hp) (σ : L2.St) : Vl → V → Prop
  | .im d, v => Rp K B d v
  | .fr _, _ => False
  | .bo i, v => σ[i]? = some (some v)
def SEX (t : TE) (m : M Vl) : Prop := ∀ (σ τ : L2.St) (B H : Hp) (env pe env' : Env) (r : Vl) (Q : VK), SR K A B H (σ ++ τ) (env ++ pe) → σ.length = env.length → m env = some (r, env') →
  (∀ B' H' v, Same B B' → σ.length = env'.length → VR K A B' H' σ τ env' pe r v → Q v H') → t σ H Q
def SAX (t : TA) (m : M (List Vl)) : Prop := ∀ (σ τ : L2.St) (B H : Hp) (env pe env' : Env) (rs : List Vl) (Q : List V → Hp → Prop), SR K A B H (σ ++ τ) (env ++ pe) → σ.length = env.length → m env = some (rs, env') →
  (∀ B' H' vs, Same B B' → σ.length = env'.length → SR K A B' H' (σ ++ τ) (env' ++ pe) → Paired (Hv K B' σ) rs vs → Q vs H') → t σ H Q
def STX (t : TT) (m : M Bool) : Prop := ∀ (σ τ : L2.St) (B H : Hp) (env pe env' : Env) (b : Bool) (Q : Bool → Hp → Prop), SR K A B H (σ ++ τ) (env ++ pe) → σ.length = env.length → m env = some (b, env') →
  (∀ B' H', Same B B' → σ.length = env'.length → SR K A B' H' (σ ++ τ) (env' ++ pe) → Q b H') → t σ H Q
end

section
variable {K : PySem.W.Frag} {A : Anc} {B H : Hp} {σ τ : L2.St} {env pe : Env}
theorem list_set_self {α : Type} {l : List α} {i : Nat} {a : α} (h : l[i]? = some a) : l.set i a = l := by
  have hi := (List.getElem?_eq_some_iff.mp h).1
  apply List.ext_getElem?
  intro j
  by_cases hj : i = j
  · subst hj
    rw [List.getElem?_set_self hi, h]
  · rw [List.getElem?_set_ne hj]
/-- a pending value is frozen (unless a slot holds it) -/
theorem VR.held {r : Vl} {v : V} (h : VR K A B H σ τ env pe r v) : ∃ B', Same B B' ∧ SR K A B' H (σ ++ τ) (env ++ pe) ∧ Hv K B' σ r.hold v := by
  cases r with
  | im d => exact ⟨B, Same.refl _, h.1, h.2⟩
  | bo i => exact ⟨B, Same.refl _, h.1, h.2⟩
  | fr d =>
    have S : SR K A B H (σ ++ τ ++ [some v]) (env ++ pe ++ [.ow d]) := h
    have hl : (σ ++ τ).length = (env ++ pe).length := by
      have := S.len
      simp only [List.length_append, List.length_cons, List.length_nil] at this ⊢
      omega
    have e1 : (env ++ pe ++ [Sl.ow d])[(env ++ pe).length]? = some (.ow d) := by simp
    have e2 : (σ ++ τ ++ [some v])[(env ++ pe).length]? = some (some v) := by
      rw [← hl]
      simp
    cases S.slot _ _ _ e1 e2 with
    | ow b h0 c =>
      obtain ⟨o, ho, S1, hB, rr⟩ := S.freezeAt e1 e2
      refine ⟨_, hB, ?_, rr⟩
      have e3 : (env ++ pe ++ [Sl.ow d]).set (env ++ pe).length (.im d) = env ++ pe ++ [.im d] := by simp
      rw [e3] at S1
      exact S1.front hl
theorem SR.lens (S : SR K A B H (σ ++ τ) (env ++ pe)) (hl : σ.length = env.length) : τ.length = pe.length := by
  have := S.len
  simp only [List.length_append] at this
  omega
theorem SR.at (S : SR K A B H (σ ++ τ) (env ++ pe)) (hl : σ.length = env.length) {i : Nat} {sl : Sl} {ov : Option V} (e1 : env[i]? = some sl) (e2 : σ[i]? = some ov) : SlOk K A B H sl ov := by
  refine S.slot i sl ov ?_ ?_
  · rw [List.getElem?_append_left (List.getElem?_eq_some_iff.mp e1).1]
    exact e1
  · rw [List.getElem?_append_left (List.getElem?_eq_some_iff.mp e2).1]
    exact e2
/-- v stands for d: frozen, or the content of a container that stands in the heap -/
inductive Rr (K : PySem.W.Frag) (B H : Hp) : D → V → Prop
  | fz {d : D} {v : V} : Rp K B d v → Rr K B H d v
  | ct {d : D} {p : Addr} : Cont K B d (H p) → Rr K B H d (.ref p)
theorem Rr.lst {ds : List D} {v : V} (s : Same B H) (h : Rr K B H (.lst ds) v) : ∃ a xs, v = .ref a ∧ H a = some (.lst xs) ∧ Rps K B ds xs := by
  cases h with
  | fz r =>
    cases r with
    | lst h r => exact ⟨_, _, rfl, s _ _ h, r⟩
  | ct c =>
    rename_i p
    generalize e : H p = o at c
    cases c with
    | lst r => exact ⟨_, _, rfl, e, r⟩
theorem Rr.ty {n : String} {v : V} (h : Rr K B H (.ty n) v) : v = .ty n := by
  cases h with
  | fz r => cases r; rfl
  | ct c =>
    rename_i p
    generalize e : H p = o at c
    cases c
theorem Rr.sc {ns : List Int} {v : V} (s : Same B H) (h : Rr K B H (.sc ns) v) : ∃ a, v = .ref a ∧ SqL K H a (ns.map V.int) := by
  cases h with
  | fz r =>
    cases r with
    | sc h => exact ⟨_, rfl, sameL s h⟩
  | ct c =>
    rename_i p
    generalize e : H p = o at c
    cases c
theorem Rr.tup {ds : List D} {v : V} (s : Same B H) (h : Rr K B H (.tup ds) v) : ∃ a xs, v = .ref a ∧ H a = some (.tup xs) ∧ TuT K B a xs ∧ Rps K B ds xs := by
  cases h with
  | fz r =>
    cases r with
    | tup h r => exact ⟨_, _, rfl, h.same s, h, r⟩
  | ct c =>
    rename_i p
    generalize e : H p = o at c
    cases c
theorem Rr.int {i : Int} {v : V} (h : Rr K B H (.int i) v) : v = .int i := by
  cases h with
  | fz r => cases r; rfl
  | ct c =>
    rename_i p
    generalize e : H p = o at c
    cases c
theorem Rr.bl {b : Bool} {v : V} (h : Rr K B H (.bl b) v) : v = .bl b := by
  cases h with
  | fz r => cases r; rfl
  | ct c =>
    rename_i p
    generalize e : H p = o at c
    cases c
theorem Rr.non {v : V} (h : Rr K B H .non v) : v = .non := by
  cases h with
  | fz r => cases r; rfl
  | ct c =>
    rename_i p
    generalize e : H p = o at c
    cases c
theorem Rr.str {x : Str} {v : V} (h : Rr K B H (.str x) v) : v = .str x ∧ PyData.strOk x = true := by
  cases h with
  | fz r =>
    cases r with
    | str _ h => exact ⟨rfl, h⟩
  | ct c =>
    rename_i p
    generalize e : H p = o at c
    cases c
theorem Rr.dk {es : List (Key × D)} {v : V} (s : Same B H) (h : Rr K B H (.dk es) v) : ∃ a kvs, v = .ref a ∧ H a = some (.dK kvs) ∧ es.map (·.1) = kvs.map (·.1) ∧ Rps K B (es.map (·.2)) (kvs.map (·.2)) := by
  cases h with
  | fz r =>
    cases r with
    | dk h e r => exact ⟨_, _, rfl, s _ _ h, e, r⟩
  | ct c =>
    rename_i p
    generalize e : H p = o at c
    cases c with
    | dk e1 r => exact ⟨_, _, rfl, e, e1, r⟩
theorem Rr.dt {es : List (List Key × D)} {v : V} (s : Same B H) (h : Rr K B H (.dt es) v) : ∃ a kvs, v = .ref a ∧ H a = some (.dT kvs) ∧ es.map (·.1) = kvs.map (·.1) ∧ Rps K B (es.map (·.2)) (kvs.map (·.2)) := by
  cases h with
  | fz r =>
    cases r with
    | dt h e r => exact ⟨_, _, rfl, s _ _ h, e, r⟩
  | ct c =>
    rename_i p
    generalize e : H p = o at c
    cases c with
    | dt e1 r => exact ⟨_, _, rfl, e, e1, r⟩
theorem Hv.rr {r : Vl} {v : V} {d : D} (S : SR K A B H (σ ++ τ) (env ++ pe)) (hl : σ.length = env.length) (h : Hv K B σ r v) (c : cnt env r = some d) : Rr K B H d v := by
  cases r with
  | im d' =>
    cases c
    exact .fz h
  | fr d' => exact h.elim
  | bo i =>
    have h : σ[i]? = some (some v) := h
    unfold cnt at c
    dsimp only at c
    split at c
    · rename_i d' e
      cases c
      cases S.at hl e h with
      | im r => exact .fz r
    · rename_i d' e
      cases c
      cases S.at hl e h with
      | ow b h0 cc => exact .ct cc
    · rename_i d' e
      cases c
      cases S.at hl e h with
      | io h0 cc => exact .ct cc
    · cases c
theorem Hv.rrs (S : SR K A B H (σ ++ τ) (env ++ pe)) (hl : σ.length = env.length) : ∀ {rs : List Vl} {vs : List V} {ds : List D}, Paired (Hv K B σ) rs vs → cnts env rs = some ds → Paired (Rr K B H) ds vs
  | _, _, ds, .nil, c => by
    cases c
    exact .nil
  | r :: rs, v :: vs, ds, .cons h t, c => by
    unfold cnts at c
    split at c
    · rename_i d ds' e1 e2
      cases c
      exact .cons (Hv.rr S hl h e1) (Hv.rrs S hl t e2)
    · cases c
theorem Hv.mono {B' : Hp} (s : Same B B') {r : Vl} {v : V} (h : Hv K B σ r v) : Hv K B' σ r v := by
  cases r with
  | im d => exact Rp.mono s h
  | fr d => exact h
  | bo i => exact h
end

/-! ### argument lists -/
def cN : M (List Vl) := rt []
def cA (m : M Vl) (ms : M (List Vl)) : M (List Vl) := bd m fun r => bd ms fun rs => rt (r.hold :: rs)
section
variable {K : PySem.W.Frag} {A : Anc}
theorem sa_nil : SAX K A tNil cN := fun σ τ B H env pe env' rs Q S hl e q => by
  cases e
  exact q B H [] (Same.refl _) hl S .nil
theorem sa_cons {t : TE} {ts : TA} {m : M Vl} {ms : M (List Vl)} (h : SEX K A t m) (hs : SAX K A ts ms) : SAX K A (tCons t ts) (cA m ms) := fun σ τ B H env pe env' rs Q S hl e q => by
  unfold cA bd at e
  split at e
  · rename_i r e1 he
    try dsimp only at e
    split at e
    · rename_i rs' e2 hes
      try dsimp only at e
      cases e
      refine h σ τ B H env pe e1 r _ S hl he fun B1 H1 v s1 hl1 hv => ?_
      obtain ⟨B2, s2, S2, hh⟩ := hv.held
      refine hs σ τ B2 H1 e1 pe _ rs' _ S2 hl1 hes fun B3 H3 vs s3 hl3 S3 hr => ?_
      exact q B3 H3 (v :: vs) ((s1.trans s2).trans s3) hl3 S3 (.cons (hh.mono s3) hr)
    · cases e
  · cases e
end

/-! ### a step by values -/
/-- a rule by values does f -/
def VRp (K : PySem.W.Frag) (A : Anc) (B H : Hp) (vs : L2.St) (env : Env) : Vl → V → Prop
  | .im d, v => SR K A B H vs env ∧ Rp K B d v
  | .fr d, v => SR K A B H (vs ++ [some v]) (env ++ [.ow d])
  | .bo _, _ => False
def PrS (K : PySem.W.Frag) (r : List V → Hp → VK → Prop) (f : List D → Option Vl) : Prop :=
  ∀ (A : Anc) (B H : Hp) (vs : L2.St) (env : Env) (xs : List V) (ds : List D) (res : Vl) (Q : VK), SR K A B H vs env → Paired (Rr K B H) ds xs → f ds = some res → (∀ B' H' v, Same B B' → VRp K A B' H' vs env res v → Q v H') → r xs H Q
def eP (f : List D → Option Vl) (ms : M (List Vl)) : M Vl := bd ms fun rs e => match cnts e rs with
  | some ds => match f ds with
    | some (.im d) => some (.im d, e)
    | some (.fr d) => some (.fr d, e)
    | _ => none
  | none => none
section
variable {K : PySem.W.Frag} {A : Anc}
theorem sx_prim {ta : TA} {ms : M (List Vl)} {r : List V → Hp → VK → Prop} {f : List D → Option Vl} (hp : PrS K r f) (ha : SAX K A ta ms) : SEX K A (tCB r ta) (eP f ms) := fun σ τ B H env pe env' res Q S hl e q => by
  unfold eP bd at e
  split at e
  · rename_i rs e1 he
    try dsimp only at e
    split at e
    · rename_i ds hc
      refine ha σ τ B H env pe e1 rs _ S hl he fun B1 H1 vs s1 hl1 S1 hr => ?_
      have rr := Hv.rrs S1 hl1 hr hc
      split at e
      · rename_i d hf
        cases e
        exact hp A B1 H1 (σ ++ τ) (env' ++ pe) vs ds _ Q S1 rr hf fun B2 H2 v s2 h2 => q B2 H2 v (s1.trans s2) hl1 h2
      · rename_i d hf
        cases e
        exact hp A B1 H1 (σ ++ τ) (env' ++ pe) vs ds _ Q S1 rr hf fun B2 H2 v s2 h2 => q B2 H2 v (s1.trans s2) hl1 h2
      · cases e
    · cases e
  · cases e
def on2 (r : R2) : List V → Hp → VK → Prop := fun xs H Q => match xs with
  | [x, y] => r x y H Q
  | _ => False
def on1 (r : V → Hp → VK → Prop) : List V → Hp → VK → Prop := fun xs H Q => match xs with
  | [x] => r x H Q
  | _ => False
theorem sx_op {ta tb : TE} {ma mb : M Vl} {r : R2} {f : List D → Option Vl} (hp : PrS K (on2 r) f) (ha : SEX K A ta ma) (hb : SEX K A tb mb) : SEX K A (tOp r ta tb) (eP f (cA ma (cA mb cN))) :=
  sx_prim hp (sa_cons ha (sa_cons hb sa_nil))
theorem sx_un {ta : TE} {ma : M Vl} {r : V → Hp → VK → Prop} {f : List D → Option Vl} (hp : PrS K (on1 r) f) (ha : SEX K A ta ma) : SEX K A (tUn r ta) (eP f (cA ma cN)) :=
  sx_prim hp (sa_cons ha sa_nil)

/-! ### names, constants, tests -/
def eV (i : Nat) : M Vl := fun e => match e[i]? with
  | some (.im d) => some (.im d, e)
  | some (.ow _) => some (.bo i, e)
  | some (.io _ _) => some (.bo i, e)
  | _ => none
theorem sx_var {i : Nat} : SEX K A (tVar i) (eV i) := fun σ τ B H env pe env' r Q S hl e q => by
  unfold eV at e
  split at e
  · rename_i d he
    try dsimp only at e
    cases e
    have hi : i < σ.length := by
      rw [hl]
      exact (List.getElem?_eq_some_iff.mp he).1
    have hσ := List.getElem?_eq_getElem hi
    cases h : σ[i] with
    | none =>
      rw [h] at hσ
      cases S.at hl he hσ
    | some v =>
      rw [h] at hσ
      cases S.at hl he hσ with
      | im rr => exact ⟨v, hσ, q B H v (Same.refl _) hl ⟨S, rr⟩⟩
  · rename_i d he
    try dsimp only at e
    cases e
    have hi : i < σ.length := by
      rw [hl]
      exact (List.getElem?_eq_some_iff.mp he).1
    have hσ := List.getElem?_eq_getElem hi
    cases h : σ[i] with
    | none =>
      rw [h] at hσ
      cases S.at hl he hσ
    | some v =>
      rw [h] at hσ
      exact ⟨v, hσ, q B H v (Same.refl _) hl ⟨S, hσ⟩⟩
  · rename_i d he
    try dsimp only at e
    cases e
    have hi : i < σ.length := by
      rw [hl]
      exact (List.getElem?_eq_some_iff.mp he).1
    have hσ := List.getElem?_eq_getElem hi
    cases h : σ[i] with
    | none =>
      rw [h] at hσ
      cases S.at hl he hσ
    | some v =>
      rw [h] at hσ
      exact ⟨v, hσ, q B H v (Same.refl _) hl ⟨S, hσ⟩⟩
  · cases e
/-- a constant -/
def eC (d : D) : M Vl := rt (.im d)
theorem sx_con {v : V} {d : D} (h : ∀ B, Rp K B d v) : SEX K A (tC v) (eC d) := fun σ τ B H env pe env' r Q S hl e q => by
  cases e
  exact q B H v (Same.refl _) hl ⟨S, h B⟩
/-- a value that is a truth, as a test -/
def mB (m : M Vl) : M Bool := bd m fun r e => match r with
  | .im (.bl b) => some (b, e)
  | _ => none
theorem st_val {t : TE} {m : M Vl} (h : SEX K A t m) : STX K A (tB t) (mB m) := fun σ τ B H env pe env' b Q S hl e q => by
  unfold mB bd at e
  split at e
  · rename_i r e1 he
    try dsimp only at e
    split at e
    · rename_i b'
      cases e
      refine h σ τ B H env pe env' _ _ S hl he fun B1 H1 v s1 hl1 hv => ?_
      obtain ⟨S1, rr⟩ := hv
      cases rr
      exact ⟨b, rfl, q B1 H1 s1 hl1 S1⟩
    · cases e
  · cases e
def mNot (m : M Bool) : M Bool := bd m fun b => rt (!b)
theorem st_not {t : TT} {m : M Bool} (h : STX K A t m) : STX K A (tNot t) (mNot m) := fun σ τ B H env pe env' b Q S hl e q => by
  unfold mNot bd at e
  split at e
  · rename_i b' e1 he
    try dsimp only at e
    cases e
    exact h σ τ B H env pe env' _ _ S hl he q
  · cases e
def mAnd (m n : M Bool) : M Bool := bd m fun b => if b = true then n else rt false
def mOr (m n : M Bool) : M Bool := bd m fun b => if b = true then rt true else n
theorem st_and {t u : TT} {m n : M Bool} (h : STX K A t m) (h2 : STX K A u n) : STX K A (tAnd t u) (mAnd m n) := fun σ τ B H env pe env' b Q S hl e q => by
  unfold mAnd bd at e
  split at e
  · rename_i b' e1 he
    try dsimp only at e
    refine h σ τ B H env pe e1 b' _ S hl he fun B1 H1 s1 hl1 S1 => ?_
    cases b' with
    | true =>
      rw [if_pos rfl] at e ⊢
      exact h2 σ τ B1 H1 e1 pe env' b Q S1 hl1 e fun B2 H2 s2 => q B2 H2 (s1.trans s2)
    | false =>
      rw [if_neg Bool.false_ne_true] at e ⊢
      cases e
      exact q B1 H1 s1 hl1 S1
  · cases e
theorem st_or {t u : TT} {m n : M Bool} (h : STX K A t m) (h2 : STX K A u n) : STX K A (tOr t u) (mOr m n) := fun σ τ B H env pe env' b Q S hl e q => by
  unfold mOr bd at e
  split at e
  · rename_i b' e1 he
    try dsimp only at e
    refine h σ τ B H env pe e1 b' _ S hl he fun B1 H1 s1 hl1 S1 => ?_
    cases b' with
    | false =>
      rw [if_neg Bool.false_ne_true] at e ⊢
      exact h2 σ τ B1 H1 e1 pe env' b Q S1 hl1 e fun B2 H2 s2 => q B2 H2 (s1.trans s2)
    | true =>
      rw [if_pos rfl] at e ⊢
      cases e
      exact q B1 H1 s1 hl1 S1
  · cases e
/-- not, and, or as values of truths -/
def eNot (m : M Vl) : M Vl := bd (mB m) fun b => rt (.im (.bl (!b)))
theorem sx_not {t : TE} {m : M Vl} (h : SEX K A t m) : SEX K A (tNotV t) (eNot m) := fun σ τ B H env pe env' r Q S hl e q => by
  unfold eNot bd at e
  split at e
  · rename_i b e1 he
    try dsimp only at e
    cases e
    exact st_val h σ τ B H env pe env' b (fun c H' => Q (.bl (!c)) H') S hl he fun B1 H1 s1 hl1 S1 => q B1 H1 _ s1 hl1 ⟨S1, .bl _⟩
  · cases e
def eAnd (m n : M Vl) : M Vl := bd (mB m) fun b => if b = true then n else rt (.im (.bl false))
def eOr (m n : M Vl) : M Vl := bd (mB m) fun b => if b = true then rt (.im (.bl true)) else n
theorem sx_and {t u : TE} {m n : M Vl} (h : SEX K A t m) (h2 : SEX K A u n) : SEX K A (tAndV t u) (eAnd m n) := fun σ τ B H env pe env' r Q S hl e q => by
  unfold eAnd bd at e
  split at e
  · rename_i b e1 he
    try dsimp only at e
    refine st_val h σ τ B H env pe e1 b (fun c H' => if c = true then u σ H' Q else Q (.bl false) H') S hl he fun B1 H1 s1 hl1 S1 => ?_
    cases b with
    | true =>
      rw [if_pos rfl] at e ⊢
      exact h2 σ τ B1 H1 e1 pe env' r Q S1 hl1 e fun B2 H2 v s2 => q B2 H2 v (s1.trans s2)
    | false =>
      rw [if_neg Bool.false_ne_true] at e ⊢
      cases e
      exact q B1 H1 _ s1 hl1 ⟨S1, .bl _⟩
  · cases e
theorem sx_or {t u : TE} {m n : M Vl} (h : SEX K A t m) (h2 : SEX K A u n) : SEX K A (tOrV t u) (eOr m n) := fun σ τ B H env pe env' r Q S hl e q => by
  unfold eOr bd at e
  split at e
  · rename_i b e1 he
    try dsimp only at e
    refine st_val h σ τ B H env pe e1 b (fun c H' => if c = true then Q (.bl true) H' else u σ H' Q) S hl he fun B1 H1 s1 hl1 S1 => ?_
    cases b with
    | false =>
      rw [if_neg Bool.false_ne_true] at e ⊢
      exact h2 σ τ B1 H1 e1 pe env' r Q S1 hl1 e fun B2 H2 v s2 => q B2 H2 v (s1.trans s2)
    | true =>
      rw [if_pos rfl] at e ⊢
      cases e
      exact q B1 H1 _ s1 hl1 ⟨S1, .bl _⟩
  · cases e
def eIf (c : M Bool) (m n : M Vl) : M Vl := bd c fun b => if b = true then m else n
theorem sx_if {tc : TT} {t u : TE} {c : M Bool} {m n : M Vl} (hc : STX K A tc c) (h : SEX K A t m) (h2 : SEX K A u n) : SEX K A (tIf tc t u) (eIf c m n) := fun σ τ B H env pe env' r Q S hl e q => by
  unfold eIf bd at e
  split at e
  · rename_i b e1 he
    try dsimp only at e
    refine hc σ τ B H env pe e1 b _ S hl he fun B1 H1 s1 hl1 S1 => ?_
    cases b with
    | true =>
      rw [if_pos rfl] at e ⊢
      exact h σ τ B1 H1 e1 pe env' r Q S1 hl1 e fun B2 H2 v s2 => q B2 H2 v (s1.trans s2)
    | false =>
      rw [if_neg Bool.false_ne_true] at e ⊢
      exact h2 σ τ B1 H1 e1 pe env' r Q S1 hl1 e fun B2 H2 v s2 => q B2 H2 v (s1.trans s2)
  · cases e

/-! ### tuples and lists that are written -/
/-- held values are frozen for good -/
theorem frz_ok {B H : Hp} {σ τ : L2.St} {env pe env' : Env} {r : Vl} {v : V} {d : D} (S : SR K A B H (σ ++ τ) (env ++ pe)) (hl : σ.length = env.length) (h : Hv K B σ r v) (e : frz r env = some (d, env')) :
    ∃ B', Same B B' ∧ SR K A B' H (σ ++ τ) (env' ++ pe) ∧ σ.length = env'.length ∧ Rp K B' d v := by
  cases r with
  | im d' =>
    cases e
    exact ⟨B, Same.refl _, S, hl, h⟩
  | fr d' => exact h.elim
  | bo i =>
    have h : σ[i]? = some (some v) := h
    unfold frz at e
    dsimp only at e
    split at e
    · rename_i d' he
      try dsimp only at e
      cases e
      cases S.at hl he h with
      | im rr => exact ⟨B, Same.refl _, S, hl, rr⟩
    · rename_i d' he
      try dsimp only at e
      cases e
      have hi := (List.getElem?_eq_some_iff.mp he).1
      have hj := (List.getElem?_eq_some_iff.mp h).1
      cases S.at hl he h with
      | ow b h0 c =>
        obtain ⟨o, ho, S1, hB, rr⟩ := S.freezeAt (i := i) (by rw [List.getElem?_append_left hi]; exact he) (by rw [List.getElem?_append_left hj]; exact h)
        rw [List.set_append_left _ _ hi] at S1
        exact ⟨_, hB, S1, by simpa using hl, rr⟩
    · cases e
theorem frzs_ok {σ τ : L2.St} {pe : Env} : ∀ {rs : List Vl} {vs : List V} {B H : Hp} {env env' : Env} {ds : List D}, SR K A B H (σ ++ τ) (env ++ pe) → σ.length = env.length → Paired (Hv K B σ) rs vs → frzs rs env = some (ds, env') →
    ∃ B', Same B B' ∧ SR K A B' H (σ ++ τ) (env' ++ pe) ∧ σ.length = env'.length ∧ Rps K B' ds vs
  | _, _, B, H, env, env', ds, S, hl, .nil, e => by
    cases e
    exact ⟨B, Same.refl _, S, hl, .nil⟩
  | r :: rs, v :: vs, B, H, env, env', ds, S, hl, .cons h t, e => by
    unfold frzs bd at e
    split at e
    · rename_i d e1 he
      try dsimp only at e
      split at e
      · rename_i ds' e2 hes
        try dsimp only at e
        cases e
        obtain ⟨B1, s1, S1, hl1, r1⟩ := frz_ok S hl h he
        obtain ⟨B2, s2, S2, hl2, r2⟩ := frzs_ok S1 hl1 (Paired.mapP t fun _ _ z => z.mono s1) hes
        exact ⟨B2, s1.trans s2, S2, hl2, .cons (r1.mono s2) r2⟩
      · cases e
    · cases e
def small (n : Nat) : Bool := decide (n ≤ sizeLine)
def eTup (ms : M (List Vl)) : M Vl := bd ms fun rs => bd (frzs rs) fun ds => if small ds.length = true then rt (.im (.tup ds)) else fun _ => none
def eLst (ms : M (List Vl)) : M Vl := bd ms fun rs => bd (frzs rs) fun ds => if small ds.length = true then rt (.fr (.lst ds)) else fun _ => none
theorem sx_tup {ta : TA} {ms : M (List Vl)} (ha : SAX K A ta ms) : SEX K A (tTup ta) (eTup ms) := fun σ τ B H env pe env' r Q S hl e q => by
  unfold eTup bd at e
  split at e
  · rename_i rs e1 he
    try dsimp only at e
    split at e
    · rename_i ds e2 hes
      try dsimp only at e
      split at e
      · rename_i hsm
        cases e
        refine ha σ τ B H env pe e1 rs _ S hl he fun B1 H1 vs s1 hl1 S1 hr => ?_
        obtain ⟨B2, s2, S2, hl2, r2⟩ := frzs_ok S1 hl1 hr hes
        refine ⟨by rw [← r2.length]; exact of_decide_eq_true hsm, fun p hp => ?_⟩
        obtain ⟨S3, s3⟩ := S2.laidF (o := .tup vs) hp
        exact q _ _ _ ((s1.trans s2).trans s3) hl2 ⟨S3, .tup upd_same (r2.mono s3)⟩
      · cases e
    · cases e
  · cases e
theorem sx_lst {ta : TA} {ms : M (List Vl)} (ha : SAX K A ta ms) : SEX K A (tLst ta) (eLst ms) := fun σ τ B H env pe env' r Q S hl e q => by
  unfold eLst bd at e
  split at e
  · rename_i rs e1 he
    try dsimp only at e
    split at e
    · rename_i ds e2 hes
      try dsimp only at e
      split at e
      · rename_i hsm
        cases e
        refine ha σ τ B H env pe e1 rs _ S hl he fun B1 H1 vs s1 hl1 S1 hr => ?_
        obtain ⟨B2, s2, S2, hl2, r2⟩ := frzs_ok S1 hl1 hr hes
        refine ⟨by rw [← r2.length]; exact of_decide_eq_true hsm, fun p hp => ?_⟩
        exact q B2 _ _ (s1.trans s2) hl2 (S2.push hp (.lst r2))
      · cases e
    · cases e
  · cases e
end
end PD
namespace PD
open PySem PySem.Spec PyProof.Rows L2

theorem bd_inv {α β : Type} {m : M α} {f : α → M β} {e e' : Env} {b : β} (h : bd m f e = some (b, e')) : ∃ a e1, m e = some (a, e1) ∧ f a e1 = some (b, e') := by
  unfold bd at h
  split at h
  · rename_i a e1 he
    exact ⟨a, e1, he, h⟩
  · cases h

/-! ### statements -/
inductive Fl where
  | nx | bk | ct | rt (v : Vl)
abbrev SM := Env → Option (Fl × Env)
section
variable (K : PySem.W.Frag) (A : Anc)
def FP (B : Hp) (E : Ends) (env' : Env) : Fl → Prop
  | .nx => ∀ σ' B' H', Same B B' → SR K A B' H' σ' env' → E.nx σ' H'
  | .bk => ∀ σ' B' H', Same B B' → SR K A B' H' σ' env' → E.bk σ' H'
  | .ct => ∀ σ' B' H', Same B B' → SR K A B' H' σ' env' → E.ct σ' H'
  | .rt r => ∀ σ' B' H' v, Same B B' → σ'.length = env'.length → VR K A B' H' σ' [] env' [] r v → E.rt v H'
def SSX (t : TS) (m : SM) : Prop := ∀ (σ : L2.St) (B H : Hp) (env env' : Env) (fl : Fl) (E : Ends), SR K A B H σ env → m env = some (fl, env') → FP K A B E env' fl → t E σ H
/-- a target: ts the slots that it stores -/
def SGX (ts : List Nat) (t : TG) (m : Vl → M Unit) : Prop := ∀ (σ τ : L2.St) (B H : Hp) (env pe env' : Env) (r : Vl) (v : V) (Q : L2.St → Hp → Prop), VR K A B H σ τ env pe r v → σ.length = env.length → m r env = some ((), env') →
  (∀ σ' B' H', Same B B' → σ'.length = env'.length → (∀ vs : List Nat, (∀ i ∈ ts, i ∈ vs) → wipe σ' vs = wipe σ vs) → SR K A B' H' (σ' ++ τ) (env' ++ pe) → Q σ' H') → t v σ H Q
def SGsX (ts : List Nat) (t : TGs) (m : List D → M Unit) : Prop := ∀ (σ τ : L2.St) (B H : Hp) (env pe env' : Env) (ds : List D) (vs : List V) (Q : L2.St → Hp → Prop), SR K A B H (σ ++ τ) (env ++ pe) → Rps K B ds vs → σ.length = env.length → m ds env = some ((), env') →
  (∀ σ' B' H', Same B B' → σ'.length = env'.length → (∀ us : List Nat, (∀ i ∈ ts, i ∈ us) → wipe σ' us = wipe σ us) → SR K A B' H' (σ' ++ τ) (env' ++ pe) → Q σ' H') → t vs σ H Q
/-- what a loop walks gives these items, as long as the frozen part stands -/
structure WD (J : It) (B0 : Hp) (items : List D) : Prop where
  goes : ∀ i H B, i < items.length → Same B0 B → Same B H → J.go i H
  stops : ∀ H B, Same B0 B → Same B H → J.stop items.length H
  yields : ∀ i H B x H', i < items.length → Same B0 B → Same B H → J.yld i H x H' → ∃ d, items[i]? = some d ∧
    ((H' = H ∧ Rp K B d x) ∨ ∃ T xs ds, x = .ref T ∧ H T = none ∧ H' = upd H T (.tup xs) ∧ d = .tup ds ∧ Rps K B ds xs)
def SIX (t : TI) (m : M (List D)) : Prop := ∀ (σ τ : L2.St) (B H : Hp) (env pe env' : Env) (ds : List D) (R : It → Hp → Prop), SR K A B H (σ ++ τ) (env ++ pe) → σ.length = env.length → m env = some (ds, env') →
  (∀ B' H' J, Same B B' → σ.length = env'.length → SR K A B' H' (σ ++ τ) (env' ++ pe) → WD K J B' ds → R J H') → t σ H R
end
section
variable {K : PySem.W.Frag} {A : Anc} {B H : Hp} {σ τ : L2.St} {env pe : Env}

theorem SR.nil_app (S : SR K A B H σ env) : SR K A B H (σ ++ []) (env ++ []) := by
  rw [List.append_nil, List.append_nil]
  exact S
theorem SR.app_nil (S : SR K A B H (σ ++ []) (env ++ [])) : SR K A B H σ env := by
  rw [List.append_nil, List.append_nil] at S
  exact S
theorem FP.mono {B2 : Hp} {E : Ends} {env' : Env} {fl : Fl} (s : Same B B2) (h : FP K A B E env' fl) : FP K A B2 E env' fl := by
  cases fl with
  | nx => exact fun σ' B' H' s' => h σ' B' H' (s.trans s')
  | bk => exact fun σ' B' H' s' => h σ' B' H' (s.trans s')
  | ct => exact fun σ' B' H' s' => h σ' B' H' (s.trans s')
  | rt r => exact fun σ' B' H' v s' => h σ' B' H' v (s.trans s')

def sNil : SM := fun e => some (.nx, e)
def sSeq (m n : SM) : SM := fun e => match m e with
  | some (.nx, e') => n e'
  | some (fl, e') => some (fl, e')
  | none => none
theorem ss_nil : SSX K A tNext sNil := fun σ B H env env' fl E S e q => by
  cases e
  exact q σ B H (Same.refl _) S
theorem ss_seq {t u : TS} {m n : SM} (h : SSX K A t m) (h2 : SSX K A u n) : SSX K A (tSeq t u) (sSeq m n) := fun σ B H env env' fl E S e q => by
  unfold sSeq at e
  split at e
  · rename_i e1 he
    exact h σ B H env e1 .nx _ S he fun σ1 B1 H1 s1 S1 => h2 σ1 B1 H1 e1 env' fl E S1 e (q.mono s1)
  · rename_i f e1 hn he
    cases e
    refine h σ B H env env' fl _ S he ?_
    cases fl with
    | nx => exact (hn rfl).elim
    | bk => exact q
    | ct => exact q
    | rt r => exact q
  · cases e
def sPass : SM := fun e => some (.nx, e)
def sBrk : SM := fun e => some (.bk, e)
def sCnt : SM := fun e => some (.ct, e)
theorem ss_pass : SSX K A tNext sPass := ss_nil
theorem ss_brk : SSX K A tBreak sBrk := fun σ B H env env' fl E S e q => by
  cases e
  exact q σ B H (Same.refl _) S
theorem ss_cnt : SSX K A tCont sCnt := fun σ B H env env' fl E S e q => by
  cases e
  exact q σ B H (Same.refl _) S
/-- a value is dropped -/
def sExp (m : M Vl) : SM := fun e => match m e with
  | some (_, e') => some (.nx, e')
  | none => none
theorem VR.drop {r : Vl} {v : V} (h : VR K A B H σ τ env pe r v) : SR K A B H (σ ++ τ) (env ++ pe) := by
  cases r with
  | im d => exact h.1
  | bo i => exact h.1
  | fr d =>
    have S : SR K A B H (σ ++ τ ++ [some v]) (env ++ pe ++ [.ow d]) := h
    refine S.front ?_
    have := S.len
    simp only [List.length_append, List.length_cons, List.length_nil] at this ⊢
    omega
theorem ss_exp {t : TE} {m : M Vl} (h : SEX K A t m) : SSX K A (tDrop t) (sExp m) := fun σ B H env env' fl E S e q => by
  unfold sExp at e
  split at e
  · rename_i r e1 he
    cases e
    exact h σ [] B H env [] _ r _ S.nil_app S.len he fun B1 H1 v s1 hl1 hv => q σ B1 H1 s1 hv.drop.app_nil
  · cases e
def sRet (m : M Vl) : SM := fun e => match m e with
  | some (r, e') => some (.rt r, e')
  | none => none
theorem ss_ret {t : TE} {m : M Vl} (h : SEX K A t m) : SSX K A (tRet t) (sRet m) := fun σ B H env env' fl E S e q => by
  unfold sRet at e
  split at e
  · rename_i r e1 he
    cases e
    exact h σ [] B H env [] _ r _ S.nil_app S.len he fun B1 H1 v s1 hl1 hv => q σ B1 H1 v s1 hl1 hv
  · cases e
def sRetN : SM := fun e => some (.rt (.im .non), e)
theorem ss_retN : SSX K A tRetN sRetN := fun σ B H env env' fl E S e q => by
  cases e
  exact q σ B H _ (Same.refl _) S.len ⟨S.nil_app, .non⟩
def sIf (c : M Bool) (m n : SM) : SM := fun e => match c e with
  | some (b, e') => if b = true then m e' else n e'
  | none => none
theorem ss_if {tc : TT} {t u : TS} {c : M Bool} {m n : SM} (hc : STX K A tc c) (h : SSX K A t m) (h2 : SSX K A u n) : SSX K A (tIfS tc t u) (sIf c m n) := fun σ B H env env' fl E S e q => by
  unfold sIf at e
  split at e
  · rename_i b e1 he
    refine hc σ [] B H env [] e1 b _ S.nil_app S.len he fun B1 H1 s1 hl1 S1 => ?_
    cases b with
    | true =>
      rw [if_pos rfl] at e ⊢
      exact h σ B1 H1 e1 env' fl E S1.app_nil e (q.mono s1)
    | false =>
      rw [if_neg Bool.false_ne_true] at e ⊢
      exact h2 σ B1 H1 e1 env' fl E S1.app_nil e (q.mono s1)
  · cases e

/-! ### targets -/
theorem wipe_set {i : Nat} {x : Option V} : ∀ {vs : List Nat} {σ : L2.St}, i ∈ vs → wipe (σ.set i x) vs = wipe σ vs
  | [], _, h => by cases h
  | v :: vs, σ, h => by
    show (wipe (σ.set i x) vs).set v none = (wipe σ vs).set v none
    by_cases hv : i ∈ vs
    · rw [wipe_set hv]
    · have e : i = v := by
        rcases List.mem_cons.mp h with e | e
        · exact e
        · exact absurd e hv
      subst e
      have c : ∀ (us : List Nat) (ρ : L2.St), wipe (ρ.set i x) us = if i ∈ us then wipe ρ us else (wipe ρ us).set i x := by
        intro us
        induction us with
        | nil => intro ρ; rw [if_neg (by simp)]; rfl
        | cons u us ih =>
          intro ρ
          show (wipe (ρ.set i x) us).set u none = _
          rw [ih ρ]
          by_cases h1 : i ∈ us
          · rw [if_pos h1, if_pos (List.mem_cons_of_mem _ h1)]
            rfl
          · rw [if_neg h1]
            by_cases h2 : i = u
            · subst h2
              rw [if_pos List.mem_cons_self, List.set_set]
              rfl
            · rw [if_neg (by simp [h1, h2])]
              show ((wipe ρ us).set i x).set u none = ((wipe ρ us).set u none).set i x
              exact List.set_comm _ _ h2
      rw [c vs σ, if_neg hv, List.set_set]
/-- a name -/
def gN (i : Nat) : Vl → M Unit := fun r env => if i < env.length then match r with
    | .im d => some ((), env.set i (.im d))
    | .fr d => some ((), env.set i (.ow d))
    | .bo j => match frz (.bo j) env with
      | some (d, e1) => some ((), e1.set i (.im d))
      | none => none
  else none
theorem getE_snoc {α : Type} {l : List α} {x y : α} {i : Nat} (h : (l ++ [x])[i]? = some y) : (i < l.length ∧ l[i]? = some y) ∨ (i = l.length ∧ y = x) := by
  by_cases hi : i < l.length
  · rw [List.getElem?_append_left hi] at h
    exact .inl ⟨hi, h⟩
  · rw [List.getElem?_append_right (by omega)] at h
    have h1 : i - l.length < [x].length := (List.getElem?_eq_some_iff.mp h).1
    have h3 : i - l.length = 0 := by simpa using h1
    rw [h3] at h
    exact .inr ⟨by omega, (Option.some.inj h).symm⟩
/-- the last slot is moved to place i -/
theorem SR.move {i : Nat} {ov : Option V} {sl : Sl} (S : SR K A B H (σ ++ [ov]) (env ++ [sl])) (hl : σ.length = env.length) (hi : i < env.length) : SR K A B H (σ.set i ov) (env.set i sl) := by
  refine S.sub (by simp [hl]) (fun j => if j = i then env.length else j) (fun a b s1 s2 e1 e2 _ _ h => ?_) (fun j s e _ => ?_)
  · have ha : a < env.length := by simpa using (List.getElem?_eq_some_iff.mp e1).1
    have hb : b < env.length := by simpa using (List.getElem?_eq_some_iff.mp e2).1
    split at h <;> split at h <;> omega
  · have hj : j < env.length := by simpa using (List.getElem?_eq_some_iff.mp e).1
    split
    · rename_i q
      subst q
      rw [List.getElem?_set_self hi] at e
      cases e
      refine ⟨by simp, ?_⟩
      rw [List.getElem?_set_self (by rw [hl]; exact hi), ← hl]
      simp
    · rename_i q
      rw [List.getElem?_set_ne (fun z => q z.symm)] at e ⊢
      refine ⟨by rw [List.getElem?_append_left hj]; exact e, ?_⟩
      rw [List.getElem?_append_left (by rw [hl]; exact hj)]
theorem sg_name {i : Nat} : SGX K A [i] (gName i) (gN i) := fun σ τ B H env pe env' r v Q hv hl e q => by
  unfold gN at e
  split at e
  · rename_i hi
    have hiσ : i < σ.length := by rw [hl]; exact hi
    have wp : ∀ vs : List Nat, (∀ j ∈ [i], j ∈ vs) → wipe (σ.set i (some v)) vs = wipe σ vs := fun vs h => wipe_set (h i (by simp))
    cases r with
    | im d =>
      cases e
      obtain ⟨S, rr⟩ := hv
      refine q _ B H (Same.refl _) (by simp [hl]) wp ?_
      have := S.setIm (i := i) rr
      rw [List.set_append_left _ _ hiσ, List.set_append_left _ _ hi] at this
      exact this
    | fr d =>
      cases e
      have S : SR K A B H (σ ++ τ ++ [some v]) (env ++ pe ++ [.ow d]) := hv
      have hl2 : (σ ++ τ).length = (env ++ pe).length := by
        have := S.len
        simp only [List.length_append, List.length_cons, List.length_nil] at this ⊢
        omega
      refine q _ B H (Same.refl _) (by simp [hl]) wp ?_
      have := S.move (i := i) hl2 (by simp only [List.length_append]; omega)
      rw [List.set_append_left _ _ hiσ, List.set_append_left _ _ hi] at this
      exact this
    | bo j =>
      dsimp only at e
      split at e
      · rename_i d e1 he
        cases e
        obtain ⟨S, hj⟩ := hv
        obtain ⟨B1, s1, S1, hl1, rr⟩ := frz_ok (r := .bo j) S hl hj he
        refine q _ B1 H s1 (by simp [hl1]) wp ?_
        have := S1.setIm (i := i) rr
        rw [List.set_append_left _ _ hiσ, List.set_append_left _ _ (by rw [← hl1]; exact hiσ)] at this
        exact this
      · cases e
  · cases e
def gsN : List D → M Unit := fun ds e => match ds with
  | [] => some ((), e)
  | _ => none
def gsC (g : Vl → M Unit) (gs : List D → M Unit) : List D → M Unit := fun ds e => match ds with
  | d :: r => match g (.im d) e with
    | some (_, e1) => gs r e1
    | none => none
  | [] => none
theorem sgs_nil : SGsX K A [] gNil gsN := fun σ τ B H env pe env' ds vs Q S rr hl e q => by
  unfold gsN at e
  split at e
  · cases e
    cases rr
    exact ⟨rfl, q σ B H (Same.refl _) hl (fun _ _ => rfl) S⟩
  · cases e
theorem sgs_cons {ts us : List Nat} {t : TG} {u : TGs} {g : Vl → M Unit} {gs : List D → M Unit} (h : SGX K A ts t g) (h2 : SGsX K A us u gs) : SGsX K A (ts ++ us) (gCons t u) (gsC g gs) := fun σ τ B H env pe env' ds vs Q S rr hl e q => by
  unfold gsC at e
  split at e
  · rename_i d r
    split at e
    · rename_i e1 he
      cases rr with
      | @cons _ v _ vr r1 r2 =>
        refine ⟨v, vr, rfl, h σ τ B H env pe e1 (.im d) v _ ⟨S, r1⟩ hl he fun σ1 B1 H1 s1 hl1 w1 S1 => ?_⟩
        refine h2 σ1 τ B1 H1 e1 pe env' r vr Q S1 (r2.mono s1) hl1 e fun σ2 B2 H2 s2 hl2 w2 S2 => ?_
        refine q σ2 B2 H2 (s1.trans s2) hl2 (fun ws hw => ?_) S2
        rw [w2 ws fun i hi => hw i (List.mem_append_right _ hi), w1 ws fun i hi => hw i (List.mem_append_left _ hi)]
    · cases e
  · cases e
/-- (a, b, ..) of a tuple -/
def gT (n : Nat) (gs : List D → M Unit) : Vl → M Unit := fun r e => match r with
  | .im (.tup ds) => if ds.length = n then gs ds e else none
  | _ => none
theorem sg_tup {ts : List Nat} {t : TGs} {gs : List D → M Unit} {n : Nat} (h : SGsX K A ts t gs) : SGX K A ts (gTup K n t) (gT n gs) := fun σ τ B H env pe env' r v Q hv hl e q => by
  unfold gT at e
  split at e
  · rename_i ds
    split at e
    · rename_i hn
      obtain ⟨S, rr⟩ := hv
      cases rr with
      | @tup a xs _ hs r2 =>
        exact ⟨a, xs, rfl, (hs.same S.same).sq, by rw [← r2.length]; exact hn, h σ τ B H env pe env' ds xs Q S r2 hl e q⟩
    · cases e
  · cases e
def sAsg (m : M Vl) (g : Vl → M Unit) : SM := fun e => match m e with
  | some (r, e1) => match g r e1 with
    | some (_, e2) => some (.nx, e2)
    | none => none
  | none => none
theorem ss_asg {ts : List Nat} {t : TE} {u : TG} {m : M Vl} {g : Vl → M Unit} (h : SEX K A t m) (h2 : SGX K A ts u g) : SSX K A (tAsg t u) (sAsg m g) := fun σ B H env env' fl E S e q => by
  unfold sAsg at e
  split at e
  · rename_i r e1 he
    split at e
    · rename_i e2 hg
      cases e
      refine h σ [] B H env [] e1 r _ S.nil_app S.len he fun B1 H1 v s1 hl1 hv => ?_
      exact h2 σ [] B1 H1 e1 [] _ r v _ hv hl1 hg fun σ2 B2 H2 s2 hl2 _ S2 => q σ2 B2 H2 (s1.trans s2) S2.app_nil
    · cases e
  · cases e

/-! ### loops -/
theorem WD.yield {J : It} {B0 : Hp} {items : List D} (w : WD K J B0 items) {i : Nat} {x : V} {H' : Hp} {d : D} (hi : items[i]? = some d) (s : Same B0 B) (S : SR K A B H σ env) (y : J.yld i H x H') :
    ∃ B', Same B B' ∧ SR K A B' H' σ env ∧ Rp K B' d x := by
  obtain ⟨d', hd, h⟩ := w.yields i H B x H' (List.getElem?_eq_some_iff.mp hi).1 s S.same y
  rw [hi] at hd
  cases hd
  rcases h with ⟨rfl, r⟩ | ⟨T, xs, ds, rfl, nT, rfl, rfl, r⟩
  · exact ⟨B, Same.refl _, S, r⟩
  · obtain ⟨S1, s1⟩ := S.laidF (o := .tup xs) nT
    exact ⟨_, s1, S1, .tup upd_same (r.mono s1)⟩
def forL (g : Vl → M Unit) (b : SM) : List D → SM
  | [], e => some (.nx, e)
  | d :: ds, e => match g (.im d) e with
    | none => none
    | some (_, e1) => match b e1 with
      | some (.nx, e2) => forL g b ds e2
      | some (.ct, e2) => forL g b ds e2
      | some (.bk, e2) => some (.nx, e2)
      | some (.rt v, e2) => some (.rt v, e2)
      | none => none
def sFor (mi : M (List D)) (g : Vl → M Unit) (b : SM) : SM := fun e => match mi e with
  | some (ds, e1) => forL g b ds e1
  | none => none
theorem ss_for {ts : List Nat} {wi : TI} {t : TG} {tb : TS} {mi : M (List D)} {g : Vl → M Unit} {b : SM} (hi : SIX K A wi mi) (hg : SGX K A ts t g) (hb : SSX K A tb b) : SSX K A (tFor wi t tb) (sFor mi g b) := fun σ B H env env' fl E S e q => by
  unfold sFor at e
  split at e
  · rename_i ds e1 he
    refine hi σ [] B H env [] e1 ds _ S.nil_app S.len he fun B1 H1 J s1 hl1 S1 w => ?_
    refine ⟨fun i m σ' H' => m = ds.length - i ∧ i ≤ ds.length ∧ ∃ B' en, Same B1 B' ∧ SR K A B' H' σ' en ∧ forL g b (ds.drop i) en = some (fl, env'),
      ⟨ds.length, by omega, by omega, B1, e1, Same.refl _, S1.app_nil, by simpa using e⟩, ?_⟩
    rintro i m σ' H' ⟨rfl, hi, B2, en, s2, S2, ef⟩
    by_cases hlt : i < ds.length
    · have hd : ds.drop i = ds[i] :: ds.drop (i + 1) := List.drop_eq_getElem_cons hlt
      rw [hd] at ef
      unfold forL at ef
      split at ef
      · cases ef
      · rename_i e2 hge
        refine .inr ⟨w.goes i H' B2 hlt s2 S2.same, fun σ3 H3 => i + 1 ≤ ds.length ∧ ∃ B' en, Same B1 B' ∧ SR K A B' H3 σ3 en ∧ forL g b (ds.drop (i + 1)) en = some (fl, env'),
          fun σ3 H3 h => ⟨ds.length - (i + 1), by omega, rfl, h⟩, fun x H3 y => ?_⟩
        obtain ⟨B3, s3, S3, r3⟩ := w.yield (List.getElem?_eq_getElem hlt) s2 S2 y
        refine hg σ' [] B3 H3 en [] e2 (.im ds[i]) x _ ⟨S3.nil_app, r3⟩ S2.len hge fun σ4 B4 H4 s4 hl4 _ S4 => ?_
        have S4 := S4.app_nil
        have s14 : Same B1 B4 := (s2.trans s3).trans s4
        split at ef
        · rename_i e3 hbe
          exact hb σ4 B4 H4 e2 e3 .nx _ S4 hbe fun σ5 B5 H5 s5 S5 => ⟨by omega, B5, e3, s14.trans s5, S5, ef⟩
        · rename_i e3 hbe
          exact hb σ4 B4 H4 e2 e3 .ct _ S4 hbe fun σ5 B5 H5 s5 S5 => ⟨by omega, B5, e3, s14.trans s5, S5, ef⟩
        · rename_i e3 hbe
          cases ef
          exact hb σ4 B4 H4 e2 _ .bk _ S4 hbe fun σ5 B5 H5 s5 S5 => q σ5 B5 H5 (s1.trans (s14.trans s5)) S5
        · rename_i v e3 hbe
          cases ef
          exact hb σ4 B4 H4 e2 _ (.rt v) _ S4 hbe fun σ5 B5 H5 v s5 => q σ5 B5 H5 v (s1.trans (s14.trans s5))
        · cases ef
    · have ei : i = ds.length := by omega
      subst ei
      rw [List.drop_length] at ef
      cases ef
      exact .inl ⟨w.stops H' B2 s2 S2.same, q σ' B2 H' (s1.trans s2) S2⟩
  · cases e
/-- while, n turns at most -/
def whlL (c : M Bool) (b : SM) : Nat → SM
  | 0, _ => none
  | n + 1, e => match c e with
    | none => none
    | some (false, e1) => some (.nx, e1)
    | some (true, e1) => match b e1 with
      | some (.nx, e2) => whlL c b n e2
      | some (.ct, e2) => whlL c b n e2
      | some (.bk, e2) => some (.nx, e2)
      | some (.rt v, e2) => some (.rt v, e2)
      | none => none
def sWhl (n : Nat) (c : M Bool) (b : SM) : SM := whlL c b n
theorem ss_whl {tc : TT} {tb : TS} {c : M Bool} {b : SM} {n : Nat} (hc : STX K A tc c) (hb : SSX K A tb b) : SSX K A (tWhile tc tb) (sWhl n c b) := fun σ B H env env' fl E S e q => by
  refine ⟨fun m σ' H' => ∃ B' en, Same B B' ∧ SR K A B' H' σ' en ∧ whlL c b m en = some (fl, env'), ⟨n, B, env, Same.refl _, S, e⟩, ?_⟩
  rintro m σ' H' ⟨B2, en, s2, S2, ef⟩
  cases m with
  | zero => cases ef
  | succ m =>
    unfold whlL at ef
    split at ef
    · cases ef
    · rename_i e1 he
      cases ef
      refine hc σ' [] B2 H' en [] _ false _ S2.nil_app S2.len he fun B3 H3 s3 hl3 S3 => ?_
      rw [if_neg Bool.false_ne_true]
      exact q σ' B3 H3 (s2.trans s3) S3.app_nil
    · rename_i e1 he
      refine hc σ' [] B2 H' en [] e1 true _ S2.nil_app S2.len he fun B3 H3 s3 hl3 S3 => ?_
      rw [if_pos rfl]
      have S3 := S3.app_nil
      refine ⟨fun σ4 H4 => ∃ B' en, Same B B' ∧ SR K A B' H4 σ4 en ∧ whlL c b m en = some (fl, env'), fun σ4 H4 h => ⟨m, by omega, h⟩, ?_⟩
      have s23 := s2.trans s3
      split at ef
      · rename_i e3 hbe
        exact hb σ' B3 H3 e1 e3 .nx _ S3 hbe fun σ5 B5 H5 s5 S5 => ⟨B5, e3, s23.trans s5, S5, ef⟩
      · rename_i e3 hbe
        exact hb σ' B3 H3 e1 e3 .ct _ S3 hbe fun σ5 B5 H5 s5 S5 => ⟨B5, e3, s23.trans s5, S5, ef⟩
      · rename_i e3 hbe
        cases ef
        exact hb σ' B3 H3 e1 _ .bk _ S3 hbe fun σ5 B5 H5 s5 S5 => q σ5 B5 H5 (s23.trans s5) S5
      · rename_i v e3 hbe
        cases ef
        exact hb σ' B3 H3 e1 _ (.rt v) _ S3 hbe fun σ5 B5 H5 v s5 => q σ5 B5 H5 v (s23.trans s5)
      · cases ef

/-! ### comprehensions -/
def wipeE (e : Env) : List Nat → Env
  | [] => e
  | v :: vs => (wipeE e vs).set v .em
theorem wipeE_length (e : Env) : ∀ vs : List Nat, (wipeE e vs).length = e.length
  | [] => rfl
  | v :: vs => by
    show ((wipeE e vs).set v .em).length = _
    rw [List.length_set, wipeE_length e vs]
theorem SR.wipe (S : SR K A B H (σ ++ τ) (env ++ pe)) (hl : σ.length = env.length) : ∀ vs : List Nat, SR K A B H (L2.wipe σ vs ++ τ) (wipeE env vs ++ pe)
  | [] => S
  | v :: vs => by
    have S1 := SR.wipe S hl vs
    show SR K A B H ((L2.wipe σ vs).set v none ++ τ) ((wipeE env vs).set v .em ++ pe)
    by_cases hv : v < σ.length
    · have := S1.setEm (i := v) (ov := none)
      rw [List.set_append_left _ _ (by rw [wipe_length]; exact hv), List.set_append_left _ _ (by rw [wipeE_length, ← hl]; exact hv)] at this
      exact this
    · rw [List.set_eq_of_length_le (by rw [wipe_length]; omega), List.set_eq_of_length_le (by rw [wipeE_length, ← hl]; omega)]
      exact S1
def calmS : Option Sl → Bool
  | some (.ow _) => false
  | some (.io _ _) => false
  | _ => true
/-- the slots of the block's own names as they were ahead -/
def unwipe (e0 e : Env) : List Nat → Env
  | [] => e
  | v :: vs => match e0[v]? with
    | some sl => (unwipe e0 e vs).set v sl
    | none => unwipe e0 e vs
def compL (vs : List Nat) (g : Vl → M Unit) (tt : M Bool) (te : M Vl) : List D → M (List D)
  | [], e => some ([], e)
  | d :: ds, e => match g (.im d) e with
    | none => none
    | some (_, e1) => match tt e1 with
      | none => none
      | some (false, e2) => compL vs g tt te ds (wipeE e2 vs)
      | some (true, e2) => match te e2 with
        | none => none
        | some (r, e3) => match frz r.hold e3 with
          | none => none
          | some (y, e4) => match compL vs g tt te ds (wipeE e4 vs) with
            | none => none
            | some (ys, e5) => some (y :: ys, e5)
def eComp (vs : List Nat) (mi : M (List D)) (g : Vl → M Unit) (tt : M Bool) (te : M Vl) : M Vl := fun e => match mi e with
  | none => none
  | some (ds, e1) => if (vs.all fun v => calmS e1[v]?) = true then match compL vs g tt te ds (wipeE e1 vs) with
      | none => none
      | some (ys, e2) => if small ys.length = true then some (.fr (.lst ys), unwipe e1 e2 vs) else none
    else none
theorem wipe_get {i : Nat} : ∀ {vs : List Nat}, i ∉ vs → (L2.wipe σ vs)[i]? = σ[i]? := fun {vs} h => wipe_out h
theorem compL_len {vs : List Nat} {g : Vl → M Unit} {tt : M Bool} {te : M Vl} : ∀ {ds : List D} {e e' : Env} {ys : List D}, compL vs g tt te ds e = some (ys, e') → ys.length ≤ ds.length
  | [], e, e', ys, h => by
    cases h
    exact Nat.le_refl _
  | d :: ds, e, e', ys, h => by
    unfold compL at h
    split at h
    · cases h
    · split at h
      · cases h
      · have := compL_len h
        rw [List.length_cons]
        omega
      · split at h
        · cases h
        · split at h
          · cases h
          · split at h
            · cases h
            · rename_i hc
              cases h
              have := compL_len hc
              rw [List.length_cons, List.length_cons]
              omega
/-- behind the block: the own names' slots are as they were -/
theorem SR.unwiped {e1 : Env} : ∀ {vs : List Nat} {B : Hp} {e2 : Env}, vs.Nodup → SR K A B H (L2.wipe σ vs ++ τ) (e2 ++ pe) → e2.length = σ.length → (∀ v ∈ vs, ∀ sl ov, e1[v]? = some sl → σ[v]? = some ov → SlOk K A B H sl ov) → (∀ v ∈ vs, calmS e1[v]? = true) → e1.length = σ.length →
    SR K A B H (σ ++ τ) (unwipe e1 e2 vs ++ pe) ∧ (unwipe e1 e2 vs).length = σ.length := by
  intro vs
  induction vs generalizing σ with
  | nil => exact fun _ S h _ _ _ => ⟨S, h⟩
  | cons v vs ih =>
    intro B e2 nd S h hs hc h1
    obtain ⟨nd1, nd2⟩ := List.nodup_cons.mp nd
    have hu : (unwipe e1 e2 (v :: vs)) = match e1[v]? with
      | some sl => (unwipe e1 e2 vs).set v sl
      | none => unwipe e1 e2 vs := rfl
    -- σ with v forgotten
    have ew : L2.wipe σ (v :: vs) = L2.wipe (σ.set v none) vs := by
      show (L2.wipe σ vs).set v none = L2.wipe (σ.set v none) vs
      have c : ∀ (us : List Nat), L2.wipe (σ.set v none) us = (L2.wipe σ us).set v none := by
        intro us
        induction us with
        | nil => rfl
        | cons u us ih2 =>
          show (L2.wipe (σ.set v none) us).set u none = ((L2.wipe σ us).set u none).set v none
          rw [ih2]
          by_cases q : v = u
          · subst q; rfl
          · exact List.set_comm _ _ q
      exact (c vs).symm
    rw [ew] at S
    by_cases hv : v < σ.length
    · obtain ⟨sl, hsl⟩ : ∃ sl, e1[v]? = some sl := ⟨_, List.getElem?_eq_getElem (by omega)⟩
      obtain ⟨ov, hov⟩ : ∃ ov, σ[v]? = some ov := ⟨_, List.getElem?_eq_getElem hv⟩
      -- v itself is calm: em or im
      have ok := hs v List.mem_cons_self sl ov hsl hov
      have cl := hc v List.mem_cons_self
      rw [hsl] at cl
      have IH := ih (σ := σ.set v none) (B := B) (e2 := e2) nd2 S (by simpa using h) (fun u hu sl' ov' g1 g2 => ?_) (fun u hu => hc u (List.mem_cons_of_mem _ hu)) (by simpa using h1)
      · obtain ⟨S1, hl1⟩ := IH
        rw [hu, hsl]
        dsimp only
        have hl1 : (unwipe e1 e2 vs).length = σ.length := by simpa using hl1
        have key : ∀ x, (σ.set v x).set v ov = σ := fun x => by
          rw [List.set_set]
          exact list_set_self hov
        refine ⟨?_, by simpa using hl1⟩
        cases ok with
        | em =>
          have := S1.setEm (i := v) (ov := ov)
          rw [List.set_append_left _ _ (by simpa using hv), List.set_append_left _ _ (by omega), key] at this
          exact this
        | im rr =>
          rename_i d v'
          have := S1.setIm (i := v) rr
          rw [List.set_append_left _ _ (by simpa using hv), List.set_append_left _ _ (by omega), key] at this
          exact this
        | ow _ _ _ => cases cl
        | io _ _ => cases cl
      · by_cases q : u = v
        · exact absurd (q ▸ hu) nd1
        · rw [List.getElem?_set_ne (fun z => q z.symm)] at g2
          exact hs u (List.mem_cons_of_mem _ hu) sl' ov' g1 g2
    · have hn : e1[v]? = none := List.getElem?_eq_none (by omega)
      have es : σ.set v none = σ := List.set_eq_of_length_le (by omega)
      rw [es] at S
      rw [hu, hn]
      exact ih nd2 S h (fun u hu => hs u (List.mem_cons_of_mem _ hu)) (fun u hu => hc u (List.mem_cons_of_mem _ hu)) h1
theorem wipe_wipe : ∀ (vs us : List Nat) (ρ : L2.St), (∀ v ∈ us, v ∈ vs) → L2.wipe (L2.wipe ρ us) vs = L2.wipe ρ vs
  | vs, [], ρ, _ => rfl
  | vs, u :: us, ρ, h => by
    show L2.wipe ((L2.wipe ρ us).set u none) vs = _
    rw [wipe_set (h u List.mem_cons_self)]
    exact wipe_wipe vs us ρ fun v hv => h v (List.mem_cons_of_mem _ hv)
theorem sx_comp {ts vs : List Nat} {wi : TI} {t : TG} {tt : TT} {te : TE} {mi : M (List D)} {g : Vl → M Unit} {mt : M Bool} {me : M Vl} (nd : vs.Nodup) (ht : ∀ i ∈ ts, i ∈ vs) (hi : SIX K A wi mi) (hg : SGX K A ts t g) (hc : STX K A tt mt) (he : SEX K A te me) :
    SEX K A (tLc wi t tt te vs) (eComp vs mi g mt me) := fun σ τ B H env pe env' r Q S hl e q => by
  unfold eComp at e
  split at e
  · cases e
  · rename_i ds e1 hie
    split at e
    · rename_i hcalm
      split at e
      · cases e
      · rename_i ys e2 hcl
        split at e
        · rename_i hsm
          cases e
          have hsz : ys.length ≤ sizeLine := of_decide_eq_true hsm
          refine hi σ τ B H env pe e1 ds _ S hl hie fun B1 H1 J s1 hl1 S1 w D hD => ?_
          have S2 : SR K A B1 (upd H1 D (.lst [])) (L2.wipe σ vs ++ τ ++ [some (.ref D)]) (wipeE e1 vs ++ pe ++ [.ow (.lst [])]) := (S1.wipe hl1 vs).push hD (.lst .nil)
          refine ⟨fun i m H' => m = ds.length - i ∧ i ≤ ds.length ∧ ∃ B' en acc rest, Same B1 B' ∧ SR K A B' H' (L2.wipe σ vs ++ (τ ++ [some (.ref D)])) (en ++ (pe ++ [.ow (.lst acc)])) ∧ σ.length = en.length ∧ compL vs g mt me (ds.drop i) en = some (rest, e2) ∧ acc ++ rest = ys,
            ⟨ds.length, by omega, by omega, B1, wipeE e1 vs, [], ys, Same.refl _, by simpa [List.append_assoc] using S2, by rw [wipeE_length]; exact hl1, by simpa using hcl, rfl⟩, ?_⟩
          rintro i m H' ⟨rfl, hi', B3, en, acc, rest, s3, S3, hl3, ec, ey⟩
          by_cases hlt : i < ds.length
          · have hd : ds.drop i = ds[i] :: ds.drop (i + 1) := List.drop_eq_getElem_cons hlt
            rw [hd] at ec
            unfold compL at ec
            split at ec
            · cases ec
            · rename_i e3 hge
              refine .inr ⟨w.goes i H' B3 hlt s3 S3.same, fun H3 => i + 1 ≤ ds.length ∧ ∃ B' en acc rest, Same B1 B' ∧ SR K A B' H3 (L2.wipe σ vs ++ (τ ++ [some (.ref D)])) (en ++ (pe ++ [.ow (.lst acc)])) ∧ σ.length = en.length ∧ compL vs g mt me (ds.drop (i + 1)) en = some (rest, e2) ∧ acc ++ rest = ys,
                fun H3 h => ⟨ds.length - (i + 1), by omega, rfl, h⟩, fun x H3 y => ?_⟩
              obtain ⟨B4, s4, S4, r4⟩ := w.yield (List.getElem?_eq_getElem hlt) s3 S3 y
              refine hg (L2.wipe σ vs) (τ ++ [some (.ref D)]) B4 H3 en (pe ++ [.ow (.lst acc)]) e3 (.im ds[i]) x _ ⟨S4, r4⟩ (by rw [wipe_length]; exact hl3) hge fun σ5 B5 H5 s5 hl5 w5 S5 => ?_
              have wv : L2.wipe σ5 vs = L2.wipe σ vs := by
                rw [w5 vs ht, wipe_wipe vs vs σ fun _ h => h]
              have l5 : σ5.length = σ.length := by
                have := congrArg List.length wv
                rwa [wipe_length, wipe_length] at this
              refine ⟨wv, ?_⟩
              have s35 : Same B1 B5 := (s3.trans s4).trans s5
              split at ec
              · cases ec
              · rename_i e4 hte
                refine hc σ5 (τ ++ [some (.ref D)]) B5 H5 e3 (pe ++ [.ow (.lst acc)]) e4 false _ S5 hl5 hte fun B6 H6 s6 hl6 S6 => ?_
                rw [if_neg Bool.false_ne_true]
                have S7 := S6.wipe hl6 vs
                rw [wv] at S7
                exact ⟨by omega, B6, wipeE e4 vs, acc, rest, s35.trans s6, S7, by rw [wipeE_length]; omega, ec, ey⟩
              · rename_i e4 hte
                refine hc σ5 (τ ++ [some (.ref D)]) B5 H5 e3 (pe ++ [.ow (.lst acc)]) e4 true _ S5 hl5 hte fun B6 H6 s6 hl6 S6 => ?_
                rw [if_pos rfl]
                split at ec
                · cases ec
                · rename_i r e5 hee
                  split at ec
                  · cases ec
                  · rename_i yd e6 hfe
                    split at ec
                    · cases ec
                    · rename_i ys' e7 hcl2
                      cases ec
                      refine he σ5 (τ ++ [some (.ref D)]) B6 H6 e4 (pe ++ [.ow (.lst acc)]) e5 r _ S6 hl6 hee fun B7 H7 v s7 hl7 hv => ?_
                      obtain ⟨B8, s8, S8, hh⟩ := hv.held
                      obtain ⟨B9, s9, S9, hl9, r9⟩ := frz_ok S8 hl7 hh hfe
                      have S10 := S9.wipe hl9 vs
                      rw [wv] at S10
                      -- the list at D grows
                      have ln : (L2.wipe σ vs ++ τ).length = (wipeE e6 vs ++ pe).length := by
                        have := S10.len
                        simp only [List.length_append, List.length_cons, List.length_nil] at this ⊢
                        omega
                      have g1 : (wipeE e6 vs ++ (pe ++ [Sl.ow (.lst acc)]))[(wipeE e6 vs ++ pe).length]? = some (.ow (.lst acc)) := by
                        rw [← List.append_assoc]
                        simp
                      have g2 : (L2.wipe σ vs ++ (τ ++ [some (V.ref D)]))[(wipeE e6 vs ++ pe).length]? = some (some (.ref D)) := by
                        rw [← List.append_assoc, ← ln]
                        simp
                      cases S10.slot _ _ _ g1 g2 with
                      | ow b0 h0 c0 =>
                        generalize ho : H7 D = o at c0
                        cases c0 with
                        | @lst accV _ ra =>
                          have la : acc.length < ys.length := by
                            rw [← ey, List.length_append, List.length_cons]
                            omega
                          refine ⟨accV, rfl, by rw [← ra.length]; omega, by omega, B9, wipeE e6 vs, acc ++ [yd], ys', (((s35.trans s6).trans s7).trans s8).trans s9, ?_, by rw [wipeE_length]; omega, hcl2, by rw [← ey]; simp⟩
                          have W := S10.write (sl' := .ow (.lst (acc ++ [yd]))) (o := .lst (accV ++ [v])) g1 (.inl ⟨rfl, rfl⟩) g2 (.lst (Rps.app ra (.one r9)))
                          have es : (wipeE e6 vs ++ (pe ++ [Sl.ow (.lst acc)])).set (wipeE e6 vs ++ pe).length (.ow (.lst (acc ++ [yd]))) = wipeE e6 vs ++ (pe ++ [.ow (.lst (acc ++ [yd]))]) := by
                            rw [← List.append_assoc, ← List.append_assoc]
                            simp
                          rw [es] at W
                          exact W
          · have ei : i = ds.length := by omega
            subst ei
            rw [List.drop_length] at ec
            cases ec
            refine .inl ⟨w.stops H' B3 s3 S3.same, ?_⟩
            have ea : acc = ys := by simpa using ey
            subst ea
            have U := SR.unwiped (σ := σ) (vs := vs) (e1 := e1) nd S3 hl3.symm (fun v hv sl ov g1 g2 => ?_) (fun v hv => (List.all_eq_true.mp hcalm) v hv) hl1.symm
            · obtain ⟨U1, U2⟩ := U
              refine q B3 H' (.ref D) (s1.trans s3) U2.symm ?_
              show SR K A B3 H' (σ ++ τ ++ [some (.ref D)]) (unwipe e1 e2 vs ++ pe ++ [.ow (.lst acc)])
              rw [List.append_assoc, List.append_assoc]
              exact U1
            · have ok := S1.at hl1 g1 g2
              have cl := (List.all_eq_true.mp hcalm) v hv
              rw [g1] at cl
              cases ok with
              | em => exact .em
              | im rr => exact .im (rr.mono s3)
              | ow _ _ _ => cases cl
              | io _ _ => cases cl
        · cases e
    · cases e
end
end PD
namespace PD
open PySem PySem.Spec PyProof.Rows L2

/-! ### data without lists, dicts -/
mutual
def D.nm : D → Bool
  | .non => true
  | .bl _ => true
  | .int _ => true
  | .str _ => true
  | .tup ds => nms ds
  | .lst _ => false
  | .dk _ => false
  | .dt _ => false
  | .sc _ => false
  | .ty _ => true
  | .txt _ => true
def nms : List D → Bool
  | [] => true
  | d :: ds => d.nm && nms ds
end
/-- a container's items are such -/
def D.nmC : D → Bool
  | .lst ds => nms ds
  | .dk es => nms (es.map (·.2))
  | .dt es => nms (es.map (·.2))
  | _ => false
def Vl.nm : Vl → Bool
  | .im d => d.nm
  | .fr d => d.nmC
  | .bo _ => false
section
variable {K : PySem.W.Frag} {B B2 : Hp}
mutual
theorem Rp.thaw (hB : ∀ a xs, TuT K B a xs → TuT K B2 a xs) : ∀ {d : D} {v : V}, d.nm = true → Rp K B d v → Rp K B2 d v
  | _, _, _, .non => .non
  | _, _, _, .bl b => .bl b
  | _, _, _, .int i => .int i
  | _, _, _, .str x h => .str x h
  | _, _, _, .ty n => .ty n
  | _, _, _, .txt x => .txt x
  | _, _, n, .tup h r => .tup (hB _ _ h) (Rps.thaw hB (by simpa [D.nm] using n) r)
  | _, _, n, .lst h r => by simp [D.nm] at n
  | _, _, n, .dk h e r => by simp [D.nm] at n
  | _, _, n, .sc h => by simp [D.nm] at n
  | _, _, n, .dt h e r => by simp [D.nm] at n
theorem Rps.thaw (hB : ∀ a xs, TuT K B a xs → TuT K B2 a xs) : ∀ {ds : List D} {vs : List V}, nms ds = true → Rps K B ds vs → Rps K B2 ds vs
  | _, _, _, .nil => .nil
  | d :: ds, _, n, .cons h r => by
    have n' : d.nm = true ∧ nms ds = true := by simpa [nms] using n
    exact .cons (Rp.thaw hB n'.1 h) (Rps.thaw hB n'.2 r)
end
theorem Cont.thaw (hB : ∀ a xs, TuT K B a xs → TuT K B2 a xs) {d : D} {o : Option HO} (n : d.nmC = true) (h : Cont K B d o) : Cont K B2 d o := by
  cases h with
  | lst r => exact .lst (r.thaw hB n)
  | dk e r => exact .dk e (r.thaw hB n)
  | dt e r => exact .dt e (r.thaw hB n)
end

/-! ### what a def does -/
/-- sem: of the arguments' contents the answer, and the parameters' contents behind it; sig: which parameters are changed -/
structure Fs where
  sem : List D → Option (Vl × List D)
  sig : List Bool
def mkE : Nat → List Bool → List D → Env
  | k, b :: bs, d :: ds => (if b = true then .io k d else .im d) :: mkE (k + 1) bs ds
  | _, _, _ => []
theorem mkE_get : ∀ {sig : List Bool} {ds : List D} {k j : Nat} {sl : Sl}, (mkE k sig ds)[j]? = some sl → ∃ b d, sig[j]? = some b ∧ ds[j]? = some d ∧ sl = if b = true then .io (k + j) d else .im d
  | [], ds, k, j, sl, h => by simp [mkE] at h
  | b :: bs, [], k, j, sl, h => by simp [mkE] at h
  | b :: bs, d :: ds, k, 0, sl, h => by
    simp [mkE] at h
    exact ⟨b, d, rfl, rfl, h.symm⟩
  | b :: bs, d :: ds, k, j + 1, sl, h => by
    have h : (mkE (k + 1) bs ds)[j]? = some sl := by simpa [mkE] using h
    obtain ⟨b', d', h1, h2, h3⟩ := mkE_get h
    exact ⟨b', d', by simpa using h1, by simpa using h2, by rw [h3, show k + 1 + j = k + (j + 1) by omega]⟩
theorem mkE_at : ∀ {sig : List Bool} {ds : List D} {k j : Nat} {b : Bool} {d : D}, sig[j]? = some b → ds[j]? = some d → (mkE k sig ds)[j]? = some (if b = true then .io (k + j) d else .im d)
  | [], ds, k, j, b, d, h, _ => by simp at h
  | _ :: _, [], k, j, b, d, _, h => by simp at h
  | b :: bs, d :: ds, k, 0, _, _, h1, h2 => by
    simp at h1 h2
    subst h1 h2
    rfl
  | b :: bs, d :: ds, k, j + 1, b', d', h1, h2 => by
    have h := mkE_at (k := k + 1) (j := j) (by simpa using h1) (by simpa using h2)
    have : (mkE k (b :: bs) (d :: ds))[j + 1]? = (mkE (k + 1) bs ds)[j]? := by simp [mkE]
    rw [this, h, show k + 1 + j = k + (j + 1) by omega]
theorem mkE_length : ∀ {sig : List Bool} {ds : List D} {k : Nat}, ds.length = sig.length → (mkE k sig ds).length = sig.length
  | [], [], _, _ => rfl
  | [], _ :: _, _, h => by simp at h
  | _ :: _, [], _, h => by simp at h
  | b :: bs, d :: ds, k, h => by
    show (mkE (k + 1) bs ds).length + 1 = bs.length + 1
    rw [mkE_length (by simpa using h)]

/-- a def's promise -/
def spF (K : PySem.W.Frag) (F : Fs) : Sp := fun vs H Q _ => ∃ (A : Anc) (B : Hp) (ds ds' : List D) (r : Vl), A.H0 = H ∧ A.B0 = B ∧ SR K A B H (vs.map some) (mkE 0 F.sig ds) ∧ ds.length = F.sig.length ∧ F.sem ds = some (r, ds') ∧
  ∀ B' H' v, Same B B' → ds'.length = ds.length → VRp K A B' H' (vs.map some) (mkE 0 F.sig ds') r v → Q v H'

/-! ### a call -/
def ioIx : List Bool → List Vl → List Nat
  | true :: bs, .bo i :: rs => i :: ioIx bs rs
  | _ :: bs, _ :: rs => ioIx bs rs
  | _, _ => []
def mutAt (e : Env) (i : Nat) : Bool := match e[i]? with
  | some sl => sl.mut
  | none => false
def brIx (e : Env) : List Bool → List Vl → List Nat
  | false :: bs, .bo i :: rs => if mutAt e i = true then i :: brIx e bs rs else brIx e bs rs
  | _ :: bs, _ :: rs => brIx e bs rs
  | _, _ => []
def ioAll (e : Env) : List Bool → List Vl → Bool
  | [], [] => true
  | true :: bs, .bo i :: rs => mutAt e i && ioAll e bs rs
  | false :: bs, _ :: rs => ioAll e bs rs
  | _, _ => false
def putC (e : Env) (i : Nat) (d : D) : Env := match e[i]? with
  | some (.ow _) => e.set i (.ow d)
  | some (.io j _) => e.set i (.io j d)
  | _ => e
def updE : List Bool → List Vl → List D → Env → Env
  | true :: bs, .bo i :: rs, d :: ds, e => updE bs rs ds (putC e i d)
  | _ :: bs, _ :: rs, _ :: ds, e => updE bs rs ds e
  | _, _, _, e => e

theorem putC_length (e : Env) (i : Nat) (d : D) : (putC e i d).length = e.length := by
  unfold putC
  split <;> simp
theorem putC_ne {e : Env} {i j : Nat} {d : D} (h : i ≠ j) : (putC e i d)[j]? = e[j]? := by
  unfold putC
  split
  · exact List.getElem?_set_ne h
  · exact List.getElem?_set_ne h
  · rfl
theorem putC_self (e : Env) (i : Nat) (d : D) : (putC e i d)[i]? = match e[i]? with
    | some (.ow _) => some (.ow d)
    | some (.io j _) => some (.io j d)
    | x => x := by
  unfold putC
  split
  · rename_i h
    rw [List.getElem?_set_self (List.getElem?_eq_some_iff.mp h).1]
  · rename_i h
    rw [List.getElem?_set_self (List.getElem?_eq_some_iff.mp h).1]
  · rename_i h1 h2
    generalize e[i]? = o at h1 h2
    cases o with
    | none => rfl
    | some sl =>
      cases sl with
      | em => rfl
      | im _ => rfl
      | ow _ => exact absurd rfl (h1 _)
      | io _ _ => exact absurd rfl (h2 _ _)
theorem putC_ow {e : Env} {i : Nat} {d d0 : D} (h : e[i]? = some (.ow d0)) : (putC e i d)[i]? = some (.ow d) := by
  unfold putC
  rw [h]
  exact List.getElem?_set_self (List.getElem?_eq_some_iff.mp h).1
theorem putC_io {e : Env} {i j : Nat} {d d0 : D} (h : e[i]? = some (.io j d0)) : (putC e i d)[i]? = some (.io j d) := by
  unfold putC
  rw [h]
  exact List.getElem?_set_self (List.getElem?_eq_some_iff.mp h).1
theorem updE_length : ∀ {sig : List Bool} {rs : List Vl} {ds : List D} {e : Env}, (updE sig rs ds e).length = e.length
  | [], _, _, _ => by simp [updE]
  | _ :: _, [], _, _ => by simp [updE]
  | _ :: _, _ :: _, [], _ => by simp [updE]
  | true :: bs, .bo i :: rs, d :: ds, e => by
    show (updE bs rs ds (putC e i d)).length = _
    rw [updE_length, putC_length]
  | true :: bs, .im _ :: rs, d :: ds, e => by
    show (updE bs rs ds e).length = _
    exact updE_length
  | true :: bs, .fr _ :: rs, d :: ds, e => by
    show (updE bs rs ds e).length = _
    exact updE_length
  | false :: bs, r :: rs, d :: ds, e => by
    show (updE bs rs ds e).length = _
    exact updE_length
theorem updE_ne {i : Nat} : ∀ {sig : List Bool} {rs : List Vl} {ds : List D} {e : Env}, i ∉ ioIx sig rs → (updE sig rs ds e)[i]? = e[i]?
  | [], _, _, _, _ => by simp [updE]
  | _ :: _, [], _, _, _ => by simp [updE]
  | _ :: _, _ :: _, [], _, _ => by simp [updE]
  | true :: bs, .bo k :: rs, d :: ds, e, h => by
    have h' : ¬ (i = k ∨ i ∈ ioIx bs rs) := by simpa [ioIx] using h
    show (updE bs rs ds (putC e k d))[i]? = _
    rw [updE_ne fun z => h' (.inr z), putC_ne fun z => h' (.inl z.symm)]
  | true :: bs, .im _ :: rs, d :: ds, e, h => by
    show (updE bs rs ds e)[i]? = _
    exact updE_ne h
  | true :: bs, .fr _ :: rs, d :: ds, e, h => by
    show (updE bs rs ds e)[i]? = _
    exact updE_ne h
  | false :: bs, .im _ :: rs, d :: ds, e, h => by
    show (updE bs rs ds e)[i]? = _
    exact updE_ne h
  | false :: bs, .fr _ :: rs, d :: ds, e, h => by
    show (updE bs rs ds e)[i]? = _
    exact updE_ne h
  | false :: bs, .bo _ :: rs, d :: ds, e, h => by
    show (updE bs rs ds e)[i]? = _
    exact updE_ne h
theorem ioIx_mem {i : Nat} : ∀ {sig : List Bool} {rs : List Vl}, i ∈ ioIx sig rs → ∃ j : Nat, sig[j]? = some true ∧ rs[j]? = some (Vl.bo i)
  | [], _, h => by simp [ioIx] at h
  | _ :: _, [], h => by simp [ioIx] at h
  | true :: bs, .bo k :: rs, h => by
    have h' : i = k ∨ i ∈ ioIx bs rs := by simpa [ioIx] using h
    rcases h' with rfl | h'
    · exact ⟨0, rfl, rfl⟩
    · obtain ⟨j, h1, h2⟩ := ioIx_mem h'
      exact ⟨j + 1, by simpa using h1, by simpa using h2⟩
  | true :: bs, .im _ :: rs, h => by
    obtain ⟨j, h1, h2⟩ := ioIx_mem (sig := bs) (rs := rs) h
    exact ⟨j + 1, by simpa using h1, by simpa using h2⟩
  | true :: bs, .fr _ :: rs, h => by
    obtain ⟨j, h1, h2⟩ := ioIx_mem (sig := bs) (rs := rs) h
    exact ⟨j + 1, by simpa using h1, by simpa using h2⟩
  | false :: bs, .im _ :: rs, h => by
    obtain ⟨j, h1, h2⟩ := ioIx_mem (sig := bs) (rs := rs) h
    exact ⟨j + 1, by simpa using h1, by simpa using h2⟩
  | false :: bs, .fr _ :: rs, h => by
    obtain ⟨j, h1, h2⟩ := ioIx_mem (sig := bs) (rs := rs) h
    exact ⟨j + 1, by simpa using h1, by simpa using h2⟩
  | false :: bs, .bo _ :: rs, h => by
    obtain ⟨j, h1, h2⟩ := ioIx_mem (sig := bs) (rs := rs) h
    exact ⟨j + 1, by simpa using h1, by simpa using h2⟩
theorem mem_ioIx {i : Nat} : ∀ {sig : List Bool} {rs : List Vl} {j : Nat}, sig[j]? = some true → rs[j]? = some (.bo i) → i ∈ ioIx sig rs
  | [], _, _, h, _ => by simp at h
  | _ :: _, [], _, _, h => by simp at h
  | b :: bs, r :: rs, 0, h1, h2 => by
    simp at h1 h2
    subst h1 h2
    simp [ioIx]
  | b :: bs, r :: rs, j + 1, h1, h2 => by
    have ih := mem_ioIx (i := i) (sig := bs) (rs := rs) (j := j) (by simpa using h1) (by simpa using h2)
    cases b with
    | true =>
      cases r with
      | bo k => simp [ioIx, ih]
      | im _ => exact ih
      | fr _ => exact ih
    | false =>
      cases r with
      | bo k => exact ih
      | im _ => exact ih
      | fr _ => exact ih
/-- which place of the arguments a changed slot has: one alone -/
theorem ioIx_one {i : Nat} : ∀ {sig : List Bool} {rs : List Vl} {j k : Nat}, (ioIx sig rs).Nodup → sig[j]? = some true → rs[j]? = some (.bo i) → sig[k]? = some true → rs[k]? = some (.bo i) → j = k
  | [], _, _, _, _, h, _, _, _ => by simp at h
  | _ :: _, [], _, _, _, _, h, _, _ => by simp at h
  | b :: bs, r :: rs, 0, 0, _, _, _, _, _ => rfl
  | b :: bs, r :: rs, 0, k + 1, nd, h1, h2, h3, h4 => by
    simp at h1 h2
    subst h1 h2
    have m := mem_ioIx (i := i) (sig := bs) (rs := rs) (j := k) (by simpa using h3) (by simpa using h4)
    have nd' : i ∉ ioIx bs rs ∧ (ioIx bs rs).Nodup := by simpa [ioIx] using nd
    exact absurd m nd'.1
  | b :: bs, r :: rs, j + 1, 0, nd, h1, h2, h3, h4 => by
    simp at h3 h4
    subst h3 h4
    have m := mem_ioIx (i := i) (sig := bs) (rs := rs) (j := j) (by simpa using h1) (by simpa using h2)
    have nd' : i ∉ ioIx bs rs ∧ (ioIx bs rs).Nodup := by simpa [ioIx] using nd
    exact absurd m nd'.1
  | b :: bs, r :: rs, j + 1, k + 1, nd, h1, h2, h3, h4 => by
    have nd' : (ioIx bs rs).Nodup := by
      cases b with
      | true =>
        cases r with
        | bo q =>
          have z : q ∉ ioIx bs rs ∧ (ioIx bs rs).Nodup := by simpa [ioIx] using nd
          exact z.2
        | im _ => exact nd
        | fr _ => exact nd
      | false =>
        cases r with
        | bo q => exact nd
        | im _ => exact nd
        | fr _ => exact nd
    rw [ioIx_one nd' (j := j) (k := k) (by simpa using h1) (by simpa using h2) (by simpa using h3) (by simpa using h4)]
theorem updE_at {i : Nat} {d : D} : ∀ {sig : List Bool} {rs : List Vl} {ds : List D} {e : Env} {j : Nat}, (ioIx sig rs).Nodup → sig[j]? = some true → rs[j]? = some (.bo i) → ds[j]? = some d → (updE sig rs ds e)[i]? = (putC e i d)[i]?
  | [], _, _, _, _, _, h, _, _ => by simp at h
  | _ :: _, [], _, _, _, _, _, h, _ => by simp at h
  | _ :: _, _ :: _, [], _, _, _, _, _, h => by simp at h
  | b :: bs, r :: rs, d' :: ds, e, 0, nd, h1, h2, h3 => by
    simp at h1 h2 h3
    subst h1 h2 h3
    have nd' : i ∉ ioIx bs rs ∧ (ioIx bs rs).Nodup := by simpa [ioIx] using nd
    show (updE bs rs ds (putC e i d'))[i]? = _
    rw [updE_ne nd'.1]
  | b :: bs, r :: rs, d' :: ds, e, j + 1, nd, h1, h2, h3 => by
    have m := mem_ioIx (i := i) (sig := bs) (rs := rs) (j := j) (by simpa using h1) (by simpa using h2)
    cases b with
    | true =>
      cases r with
      | bo q =>
        have z : q ∉ ioIx bs rs ∧ (ioIx bs rs).Nodup := by simpa [ioIx] using nd
        show (updE bs rs ds (putC e q d'))[i]? = _
        rw [updE_at z.2 (j := j) (by simpa using h1) (by simpa using h2) (by simpa using h3)]
        have ne : q ≠ i := fun w => z.1 (w ▸ m)
        rw [putC_self, putC_self, putC_ne ne]
      | im _ => exact updE_at (sig := bs) (rs := rs) (ds := ds) (j := j) nd (by simpa using h1) (by simpa using h2) (by simpa using h3)
      | fr _ => exact updE_at (sig := bs) (rs := rs) (ds := ds) (j := j) nd (by simpa using h1) (by simpa using h2) (by simpa using h3)
    | false =>
      cases r with
      | bo q => exact updE_at (sig := bs) (rs := rs) (ds := ds) (j := j) nd (by simpa using h1) (by simpa using h2) (by simpa using h3)
      | im _ => exact updE_at (sig := bs) (rs := rs) (ds := ds) (j := j) nd (by simpa using h1) (by simpa using h2) (by simpa using h3)
      | fr _ => exact updE_at (sig := bs) (rs := rs) (ds := ds) (j := j) nd (by simpa using h1) (by simpa using h2) (by simpa using h3)
theorem ioAll_at {e : Env} : ∀ {sig : List Bool} {rs : List Vl} {j : Nat}, ioAll e sig rs = true → sig[j]? = some true → ∃ i, rs[j]? = some (.bo i) ∧ mutAt e i = true
  | [], [], _, _, h => by simp at h
  | [], _ :: _, _, h, _ => by simp [ioAll] at h
  | b :: bs, [], _, h, _ => by cases b <;> simp [ioAll] at h
  | b :: bs, r :: rs, 0, h, h1 => by
    simp at h1
    subst h1
    cases r with
    | bo i =>
      have h : mutAt e i = true ∧ ioAll e bs rs = true := by simpa [ioAll] using h
      exact ⟨i, rfl, h.1⟩
    | im _ => simp [ioAll] at h
    | fr _ => simp [ioAll] at h
  | b :: bs, r :: rs, j + 1, h, h1 => by
    have h2 : ioAll e bs rs = true := by
      cases b with
      | true =>
        cases r with
        | bo i =>
          have h : mutAt e i = true ∧ ioAll e bs rs = true := by simpa [ioAll] using h
          exact h.2
        | im _ => simp [ioAll] at h
        | fr _ => simp [ioAll] at h
      | false => simpa [ioAll] using h
    obtain ⟨i, h3, h4⟩ := ioAll_at h2 (j := j) (by simpa using h1)
    exact ⟨i, by simpa using h3, h4⟩
theorem ioAll_len {e : Env} : ∀ {sig : List Bool} {rs : List Vl}, ioAll e sig rs = true → sig.length = rs.length
  | [], [], _ => rfl
  | [], _ :: _, h => by simp [ioAll] at h
  | b :: bs, [], h => by cases b <;> simp [ioAll] at h
  | b :: bs, r :: rs, h => by
    have h2 : ioAll e bs rs = true := by
      cases b with
      | true =>
        cases r with
        | bo i =>
          have h : mutAt e i = true ∧ ioAll e bs rs = true := by simpa [ioAll] using h
          exact h.2
        | im _ => simp [ioAll] at h
        | fr _ => simp [ioAll] at h
      | false => simpa [ioAll] using h
    simp [ioAll_len h2]
theorem mem_brIx {e : Env} {i : Nat} : ∀ {sig : List Bool} {rs : List Vl} {j : Nat}, sig[j]? = some false → rs[j]? = some (.bo i) → mutAt e i = true → i ∈ brIx e sig rs
  | [], _, _, h, _, _ => by simp at h
  | _ :: _, [], _, _, h, _ => by simp at h
  | b :: bs, r :: rs, 0, h1, h2, h3 => by
    simp at h1 h2
    subst h1 h2
    simp [brIx, h3]
  | b :: bs, r :: rs, j + 1, h1, h2, h3 => by
    have ih := mem_brIx (e := e) (i := i) (sig := bs) (rs := rs) (j := j) (by simpa using h1) (by simpa using h2) h3
    cases b with
    | false =>
      cases r with
      | bo k =>
        show i ∈ (if mutAt e k = true then k :: brIx e bs rs else brIx e bs rs)
        split
        · exact List.mem_cons_of_mem _ ih
        · exact ih
      | im _ => exact ih
      | fr _ => exact ih
    | true =>
      cases r with
      | bo k => exact ih
      | im _ => exact ih
      | fr _ => exact ih
theorem cnts_get {e : Env} : ∀ {rs : List Vl} {ds : List D} {j : Nat} {r : Vl}, cnts e rs = some ds → rs[j]? = some r → ∃ d, ds[j]? = some d ∧ cnt e r = some d
  | [], _, _, _, _, h => by simp at h
  | r :: rs, ds, j, r', h, h1 => by
    unfold cnts at h
    split at h
    · rename_i d ds' e1 e2
      cases h
      cases j with
      | zero =>
        simp at h1
        subst h1
        exact ⟨d, rfl, e1⟩
      | succ j =>
        obtain ⟨d', h2, h3⟩ := cnts_get e2 (j := j) (by simpa using h1)
        exact ⟨d', by simpa using h2, h3⟩
    · cases h
theorem cnts_len {e : Env} : ∀ {rs : List Vl} {ds : List D}, cnts e rs = some ds → ds.length = rs.length
  | [], _, h => by
    cases h
    rfl
  | r :: rs, ds, h => by
    unfold cnts at h
    split at h
    · rename_i d ds' e1 e2
      cases h
      simp [cnts_len e2]
    · cases h
theorem paired_get {α β : Type} {R : α → β → Prop} : ∀ {as : List α} {bs : List β} {j : Nat} {a : α}, Paired R as bs → as[j]? = some a → ∃ b, bs[j]? = some b ∧ R a b
  | _, _, _, _, .nil, h => by simp at h
  | _, _, 0, _, .cons r _, h => by
    simp at h
    subst h
    exact ⟨_, rfl, r⟩
  | _, _, j + 1, a, .cons _ t, h => by
    obtain ⟨b, h1, h2⟩ := paired_get (j := j) (a := a) t (by simpa using h)
    exact ⟨b, by simpa using h1, h2⟩
theorem paired_getR {α β : Type} {R : α → β → Prop} : ∀ {as : List α} {bs : List β} {j : Nat} {b : β}, Paired R as bs → bs[j]? = some b → ∃ a, as[j]? = some a ∧ R a b
  | _, _, _, _, .nil, h => by simp at h
  | _, _, 0, _, .cons r _, h => by
    simp at h
    subst h
    exact ⟨_, rfl, r⟩
  | _, _, j + 1, a, .cons _ t, h => by
    obtain ⟨b, h1, h2⟩ := paired_getR (j := j) (b := a) t (by simpa using h)
    exact ⟨b, by simpa using h1, h2⟩
end PD
namespace PD
open PySem PySem.Spec PyProof.Rows L2

section
variable {K : PySem.W.Frag} {A : Anc} {B H : Hp} {σ τ : L2.St} {env pe : Env}
/-- the addresses of containers that are lent to a def for reading -/
def Lent (env : Env) (sig : List Bool) (rs : List Vl) (vs : List V) (a : Addr) : Prop := ∃ (j i : Nat), sig[j]? = some false ∧ rs[j]? = some (Vl.bo i) ∧ mutAt env i = true ∧ vs[j]? = some (V.ref a)
/-- the addresses of containers that a def may change -/
def ioOf (sig : List Bool) (vs : List V) (j : Nat) : Option Addr := if sig[j]? = some true then match vs[j]? with
    | some (.ref p) => some p
    | _ => none
  else none
open Classical in
theorem call_ok {F : Fs} {rs : List Vl} {vs : List V} {ds ds' : List D} {r : Vl} (S : SR K A B H (σ ++ τ) (env ++ pe)) (hl : σ.length = env.length) (hr : Paired (Hv K B σ) rs vs) (hc : cnts env rs = some ds)
    (hio : ioAll env F.sig rs = true) (hnd : (ioIx F.sig rs).Nodup) (hdj : ∀ i ∈ ioIx F.sig rs, i ∉ brIx env F.sig rs) (hf : F.sem ds = some (r, ds'))
    (hnm : brIx env F.sig rs = [] ∨ (r.nm = true ∧ ∀ (j : Nat) (d : D), F.sig[j]? = some true → ds'[j]? = some d → d.nmC = true)) (Q : VK)
    (q : ∀ B' H' v, Same B B' → VR K A B' H' σ τ (updE F.sig rs ds' env) pe r v → Q v H') (E : XK) : spF K F vs H Q E := by
  have lrv : rs.length = vs.length := Paired.length hr
  have lsr : F.sig.length = rs.length := ioAll_len hio
  have lds : ds.length = rs.length := cnts_len hc
  -- a slot that holds something to be changed
  have held : ∀ (i : Nat) (v : V), mutAt env i = true → σ[i]? = some (some v) → ∃ p sl d, v = .ref p ∧ env[i]? = some sl ∧ sl.mut = true ∧ cnt env (.bo i) = some d ∧ B p = none ∧ (A.H0 p = none ∨ A.isIo p) ∧ Cont K B d (H p) := by
    intro i v hm hv
    unfold mutAt at hm
    split at hm
    · rename_i sl he
      cases S.at hl he hv with
      | em => cases hm
      | im _ => cases hm
      | @ow d p b h0 c => exact ⟨p, _, d, rfl, he, rfl, by simp only [cnt, he], b, .inl h0, c⟩
      | @io d p j h c => exact ⟨p, _, d, rfl, he, rfl, by simp only [cnt, he], (S.iob p ⟨_, h⟩).1, .inr ⟨_, h⟩, c⟩
    · cases hm
  have lentC : ∀ a, Lent env F.sig rs vs a → ∃ i sl d, i ∈ brIx env F.sig rs ∧ σ[i]? = some (some (.ref a)) ∧ env[i]? = some sl ∧ sl.mut = true ∧ cnt env (.bo i) = some d ∧ B a = none ∧ (A.H0 a = none ∨ A.isIo a) ∧ Cont K B d (H a) := by
    rintro a ⟨j, i, h1, h2, h3, h4⟩
    obtain ⟨v', h5, h6⟩ := paired_get hr h2
    rw [h4] at h5
    cases h5
    have h6 : σ[i]? = some (some (V.ref a)) := h6
    obtain ⟨p, sl, d, e1, e2, e3, e4, e5, e6, e7⟩ := held i _ h3 h6
    cases e1
    exact ⟨i, sl, d, mem_brIx h1 h2 h3, h6, e2, e3, e4, e5, e6, e7⟩
  have ioC : ∀ j p, ioOf F.sig vs j = some p → ∃ i sl d, F.sig[j]? = some true ∧ rs[j]? = some (.bo i) ∧ vs[j]? = some (.ref p) ∧ i ∈ ioIx F.sig rs ∧ σ[i]? = some (some (.ref p)) ∧ env[i]? = some sl ∧ sl.mut = true ∧ ds[j]? = some d ∧ B p = none ∧ (A.H0 p = none ∨ A.isIo p) ∧ Cont K B d (H p) := by
    intro j p h
    unfold ioOf at h
    split at h
    · rename_i hs
      obtain ⟨i, h2, h3⟩ := ioAll_at hio hs
      obtain ⟨v', h5, h6⟩ := paired_get hr h2
      rw [h5] at h
      have h6 : σ[i]? = some (some v') := h6
      obtain ⟨p', sl, d, e1, e2, e3, e4, e5, e6, e7⟩ := held i _ h3 h6
      subst e1
      cases h
      obtain ⟨d', g1, g2⟩ := cnts_get hc h2
      rw [e4] at g2
      cases g2
      exact ⟨i, sl, d, hs, h2, h5, mem_ioIx hs h2, h6, e2, e3, g1, e5, e6, e7⟩
    · cases h
  have apart : ∀ (i i' : Nat) (p : Addr) (sl sl' : Sl), env[i]? = some sl → env[i']? = some sl' → sl.mut = true → sl'.mut = true → σ[i]? = some (some (.ref p)) → σ[i']? = some (some (.ref p)) → i = i' := fun i i' p sl sl' h1 h2 h3 h4 h5 h6 => by
    by_cases z : i = i'
    · exact z
    · refine (S.inj i i' p sl sl' z ?_ ?_ h3 h4 ?_ ?_).elim
      · rw [List.getElem?_append_left (List.getElem?_eq_some_iff.mp h1).1]; exact h1
      · rw [List.getElem?_append_left (List.getElem?_eq_some_iff.mp h2).1]; exact h2
      · rw [List.getElem?_append_left (List.getElem?_eq_some_iff.mp h5).1]; exact h5
      · rw [List.getElem?_append_left (List.getElem?_eq_some_iff.mp h6).1]; exact h6
  have ioNotLent : ∀ j p, ioOf F.sig vs j = some p → ¬ Lent env F.sig rs vs p := by
    intro j p h h'
    obtain ⟨i, sl, d, _, _, _, m, e1, e2, e3, _⟩ := ioC j p h
    obtain ⟨i', sl', d', m', f1, f2, f3, _⟩ := lentC p h'
    have := apart i i' p sl sl' e2 f2 e3 f3 e1 f1
    subst this
    exact hdj i m m'
  -- the callee's beginning
  let Bc : Hp := fun a => if Lent env F.sig rs vs a then H a else B a
  have BcL : ∀ a, Lent env F.sig rs vs a → Bc a = H a := fun a h => if_pos h
  have BcN : ∀ a, ¬ Lent env F.sig rs vs a → Bc a = B a := fun a h => if_neg h
  have sBc : Same B Bc := fun a o e => by
    by_cases h : Lent env F.sig rs vs a
    · obtain ⟨_, _, _, _, _, _, _, _, b, _⟩ := lentC a h
      rw [b] at e
      cases e
    · rw [BcN a h]
      exact e
  have sBH : Same Bc H := fun a o e => by
    by_cases h : Lent env F.sig rs vs a
    · rw [BcL a h] at e
      exact e
    · rw [BcN a h] at e
      exact S.same a o e
  let Ac : Anc := ⟨H, Bc, ioOf F.sig vs⟩
  have S0 : SR K Ac Bc H (vs.map some) (mkE 0 F.sig ds) := by
    refine ⟨by rw [List.length_map, mkE_length (by omega)]; omega, sBH, fun j sl ov e1 e2 => ?_, fun j j' p sl sl' ne e1 e2 m1 m2 e3 e4 => ?_, fun a o e _ => ⟨e, rfl⟩, fun a ⟨j, h⟩ => ?_, fun a ⟨j, h⟩ => ?_⟩
    · obtain ⟨b, d, h1, h2, rfl⟩ := mkE_get e1
      rw [List.getElem?_map] at e2
      cases hv : vs[j]? with
      | none =>
        rw [hv] at e2
        cases e2
      | some v =>
        rw [hv] at e2
        cases e2
        obtain ⟨r', h3, h4⟩ := paired_getR hr hv
        obtain ⟨d', h5, h6⟩ := cnts_get hc h3
        rw [h2] at h5
        cases h5
        cases b with
        | true =>
          rw [if_pos rfl]
          obtain ⟨i, g1, g2⟩ := ioAll_at hio h1
          rw [h3] at g1
          cases g1
          have h4 : σ[i]? = some (some v) := h4
          obtain ⟨p, sl, d2, f1, f2, f3, f4, f5, f6, f7⟩ := held i v g2 h4
          subst f1
          rw [h6] at f4
          cases f4
          rw [Nat.zero_add]
          refine .io ?_ (f7.mono sBc)
          show ioOf F.sig vs j = some p
          unfold ioOf
          rw [if_pos h1, hv]
        | false =>
          rw [if_neg Bool.false_ne_true]
          cases r' with
          | im d2 =>
            cases h6
            have h4 : Rp K B d v := h4
            exact .im (h4.mono sBc)
          | fr d2 => exact h4.elim
          | bo i =>
            have h4 : σ[i]? = some (some v) := h4
            by_cases hm : mutAt env i = true
            · obtain ⟨p, sl, d2, f1, f2, f3, f4, f5, f6, f7⟩ := held i v hm h4
              subst f1
              rw [h6] at f4
              cases f4
              refine .im (f7.frozen sBc ?_)
              exact BcL p ⟨j, i, h1, h3, hm, hv⟩
            · have h6' := h6
              unfold cnt at h6'
              dsimp only at h6'
              split at h6'
              · rename_i d2 he
                cases h6'
                cases S.at hl he h4 with
                | im rr => exact .im (rr.mono sBc)
              · rename_i d2 he
                exact absurd (by unfold mutAt; rw [he]; rfl) hm
              · rename_i d2 he
                exact absurd (by unfold mutAt; rw [he]; rfl) hm
              · cases h6'
    · obtain ⟨b, d, h1, h2, rfl⟩ := mkE_get e1
      obtain ⟨b', d', h1', h2', rfl⟩ := mkE_get e2
      cases b with
      | false => cases m1
      | true =>
        cases b' with
        | false => cases m2
        | true =>
          have k1 : ioOf F.sig vs j = some p := by
            unfold ioOf
            rw [List.getElem?_map] at e3
            cases hv : vs[j]? with
            | none => rw [hv] at e3; cases e3
            | some v =>
              rw [hv] at e3
              cases e3
              rw [if_pos h1]
          have k2 : ioOf F.sig vs j' = some p := by
            unfold ioOf
            rw [List.getElem?_map] at e4
            cases hv : vs[j']? with
            | none => rw [hv] at e4; cases e4
            | some v =>
              rw [hv] at e4
              cases e4
              rw [if_pos h1']
          obtain ⟨i, sl, d3, x1, x2, x3, m, y1, y2, y3, _⟩ := ioC j p k1
          obtain ⟨i', sl', d4, x1', x2', x3', m', z1, z2, z3, _⟩ := ioC j' p k2
          have := apart i i' p sl sl' y2 z2 y3 z3 y1 z1
          subst this
          exact ne (ioIx_one hnd x1 x2 x1' x2')
    · obtain ⟨i, sl, d, _, _, _, m, e1, e2, e3, _, b, _, c⟩ := ioC j a h
      obtain ⟨o, ho⟩ := c.some
      exact ⟨by rw [BcN a (ioNotLent j a h)]; exact b, o, ho⟩
    · obtain ⟨i, sl, d, _, _, _, m, e1, e2, e3, _, b, _, c⟩ := ioC j a h
      exact c.some
  refine ⟨Ac, Bc, ds, ds', r, rfl, rfl, S0, by omega, hf, fun B1 H1 v s1 hld R => ?_⟩
  -- what stands behind it, for the caller
  have S1 : SR K Ac B1 H1 (vs.map some) (mkE 0 F.sig ds') := by
    cases r with
    | im d => exact R.1
    | fr d => exact SR.front (σ2 := [some v]) (env2 := [.ow d]) R (by rw [List.length_map, mkE_length (by omega)]; omega)
    | bo i => exact R.elim
  let B2 : Hp := fun a => if Lent env F.sig rs vs a then none else B1 a
  have B2L : ∀ a, Lent env F.sig rs vs a → B2 a = none := fun a h => if_pos h
  have B2N : ∀ a, ¬ Lent env F.sig rs vs a → B2 a = B1 a := fun a h => if_neg h
  have sB2 : Same B B2 := fun a o e => by
    by_cases h : Lent env F.sig rs vs a
    · obtain ⟨_, _, _, _, _, _, _, _, b, _⟩ := lentC a h
      rw [b] at e
      cases e
    · rw [B2N a h]
      exact s1 a o (sBc a o e)
  have sB21 : Same B2 B1 := fun a o e => by
    by_cases h : Lent env F.sig rs vs a
    · rw [B2L a h] at e
      cases e
    · rw [B2N a h] at e
      exact e
  -- data without lists leans on nothing that was lent
  have tT : ∀ a xs, TuT K B1 a xs → TuT K B2 a xs := fun a xs h => by
    by_cases hL : Lent env F.sig rs vs a
    · obtain ⟨i, sl, d, _, _, _, _, _, _, _, c⟩ := lentC a hL
      have hb : B1 a = H a := by
        obtain ⟨o, ho⟩ := c.some
        rw [ho]
        exact s1 a o (by rw [BcL a hL]; exact ho)
      have h : B1 a = some (.tup xs) := h
      rw [hb] at h
      rw [h] at c
      cases c
    · show B2 a = some (.tup xs)
      rw [B2N a hL]
      exact h
  have noL : brIx env F.sig rs = [] → ∀ a, ¬ Lent env F.sig rs vs a := fun e a h => by
    obtain ⟨i, _, _, m, _⟩ := lentC a h
    rw [e] at m
    cases m
  have eqB : brIx env F.sig rs = [] → B2 = B1 := fun e => funext fun a => B2N a (noL e a)
  have contIo : ∀ (j : Nat) (d : D) (o : Option HO), F.sig[j]? = some true → ds'[j]? = some d → Cont K B1 d o → Cont K B2 d o := fun j d o h1 h2 c => by
    rcases hnm with e | ⟨_, hn⟩
    · rw [eqB e]
      exact c
    · exact c.thaw tT (hn j d h1 h2)
  -- a container of the caller's that the def hasn't in hand
  have other : ∀ (p : Addr) (d : D), Cont K B d (H p) → (¬ ∃ j, ioOf F.sig vs j = some p) → H1 p = H p ∧ B1 p = Bc p := fun p d c n => by
    obtain ⟨o, ho⟩ := c.some
    obtain ⟨e1, e2⟩ := S1.anc p o ho n
    exact ⟨by rw [e1, ho], e2⟩
  have isIoC : ∀ p, (∃ j, ioOf F.sig vs j = some p) → ∃ (i j : Nat) (sl : Sl) (d' : D), i ∈ ioIx F.sig rs ∧ F.sig[j]? = some true ∧ rs[j]? = some (.bo i) ∧ σ[i]? = some (some (.ref p)) ∧ env[i]? = some sl ∧ sl.mut = true ∧ ds'[j]? = some d' ∧ Cont K B2 d' (H1 p) ∧ B2 p = none := by
    rintro p ⟨j, h⟩
    obtain ⟨i, sl, d, x1, x2, x3, m, y1, y2, y3, _, b, _, c⟩ := ioC j p h
    have hj : j < F.sig.length := (List.getElem?_eq_some_iff.mp x1).1
    have hd : ds'[j]? = some (ds'[j]'(by omega)) := List.getElem?_eq_getElem (by omega)
    have e1 := mkE_at (k := 0) x1 hd
    have e2 : (vs.map some)[j]? = some (some (V.ref p)) := by rw [List.getElem?_map, x3]; rfl
    have sl1 := S1.slot j _ _ e1 e2
    rw [if_pos rfl] at sl1
    cases sl1 with
    | io h' c' =>
      exact ⟨i, j, sl, _, m, x1, x2, y1, y2, y3, hd, contIo j _ _ x1 hd c', by rw [B2N p (ioNotLent j p h)]; exact (S1.iob p ⟨j, h⟩).1⟩
  have S2 : SR K A B2 H1 (σ ++ τ) (updE F.sig rs ds' env ++ pe) := by
    have lu : (updE F.sig rs ds' env).length = env.length := updE_length
    refine ⟨?_, fun a o e => S1.same a o (sB21 a o e), fun i sl ov e1 e2 => ?_, fun i i' p sl sl' ne e1 e2 m1 m2 e3 e4 => ?_, fun a o e n => ?_, fun a n => ?_, S.ioh⟩
    · have := S.len
      simp only [List.length_append] at this ⊢
      omega
    · -- what the caller's slot i had
      have old : ∃ sl0, (env ++ pe)[i]? = some sl0 ∧ (sl0 = sl ∨ (i ∈ ioIx F.sig rs ∧ i < env.length)) := by
        by_cases hi : i < env.length
        · by_cases hm : i ∈ ioIx F.sig rs
          · exact ⟨env[i], by rw [List.getElem?_append_left hi]; exact List.getElem?_eq_getElem hi, .inr ⟨hm, hi⟩⟩
          · rw [List.getElem?_append_left (by omega), updE_ne hm] at e1
            exact ⟨sl, by rw [List.getElem?_append_left hi]; exact e1, .inl rfl⟩
        · rw [List.getElem?_append_right (by omega), lu] at e1
          exact ⟨sl, by rw [List.getElem?_append_right (by omega)]; exact e1, .inl rfl⟩
      obtain ⟨sl0, h0, h1⟩ := old
      rcases h1 with rfl | ⟨hm, hi⟩
      · -- untouched
        by_cases hio2 : i ∈ ioIx F.sig rs ∧ i < env.length
        · obtain ⟨hm, hi⟩ := hio2
          obtain ⟨j, x1, x2⟩ := ioIx_mem hm
          obtain ⟨i2, y1, y2⟩ := ioAll_at hio x1
          rw [x2] at y1
          cases y1
          rw [List.getElem?_append_left (by omega)] at e2
          obtain ⟨v', z1, z2⟩ := paired_get hr x2
          have z2 : σ[i]? = some (some v') := z2
          rw [e2] at z2
          cases z2
          obtain ⟨p, sl2, d2, rfl, f2, f3, _⟩ := held i v' y2 e2
          have kj : ioOf F.sig vs j = some p := by
            unfold ioOf
            rw [if_pos x1, z1]
          obtain ⟨i3, j3, sl3, d3, w1, w2, w3, w4, w5, w6, w7, w8, w9⟩ := isIoC p ⟨j, kj⟩
          have := apart i i3 p sl2 sl3 f2 w5 f3 w6 e2 w4
          subst this
          have ej := ioIx_one hnd x1 x2 w2 w3
          subst ej
          rw [List.getElem?_append_left (by omega), updE_at hnd x1 x2 w7, putC_self] at e1
          rw [f2] at e1
          cases sl2 with
          | em => cases f3
          | im _ => cases f3
          | ow d4 =>
            cases e1
            cases S.at hl f2 e2 with
            | ow b0 h00 c0 => exact .ow w9 h00 w8
          | io k d4 =>
            cases e1
            cases S.at hl f2 e2 with
            | io h00 c0 => exact .io h00 w8
        · have s := S.slot i _ ov h0 e2
          cases s with
          | em => exact .em
          | im rr => exact .im (rr.mono sB2)
          | @ow d p b h00 c =>
            have n : ¬ ∃ j, ioOf F.sig vs j = some p := fun z => by
              obtain ⟨i3, j3, sl3, d3, w1, w2, w3, w4, w5, w6, w7, w8, w9⟩ := isIoC p z
              have h5 : (env ++ pe)[i3]? = some sl3 := by
                rw [List.getElem?_append_left (List.getElem?_eq_some_iff.mp w5).1]; exact w5
              have h6 : (σ ++ τ)[i3]? = some (some (V.ref p)) := by
                rw [List.getElem?_append_left (List.getElem?_eq_some_iff.mp w4).1]; exact w4
              by_cases q2 : i = i3
              · subst q2
                exact hio2 ⟨w1, (List.getElem?_eq_some_iff.mp w5).1⟩
              · exact S.inj i i3 p _ sl3 q2 h0 h5 rfl w6 e2 h6
            obtain ⟨g1, g2⟩ := other p d c n
            refine .ow ?_ h00 (by rw [g1]; exact c.mono sB2)
            by_cases hL : Lent env F.sig rs vs p
            · exact B2L p hL
            · rw [B2N p hL, g2, BcN p hL]
              exact b
          | @io d p k h00 c =>
            have n : ¬ ∃ j, ioOf F.sig vs j = some p := fun z => by
              obtain ⟨i3, j3, sl3, d3, w1, w2, w3, w4, w5, w6, w7, w8, w9⟩ := isIoC p z
              have h5 : (env ++ pe)[i3]? = some sl3 := by
                rw [List.getElem?_append_left (List.getElem?_eq_some_iff.mp w5).1]; exact w5
              have h6 : (σ ++ τ)[i3]? = some (some (V.ref p)) := by
                rw [List.getElem?_append_left (List.getElem?_eq_some_iff.mp w4).1]; exact w4
              by_cases q2 : i = i3
              · subst q2
                exact hio2 ⟨w1, (List.getElem?_eq_some_iff.mp w5).1⟩
              · exact S.inj i i3 p _ sl3 q2 h0 h5 rfl w6 e2 h6
            obtain ⟨g1, g2⟩ := other p d c n
            exact .io h00 (by rw [g1]; exact c.mono sB2)
      · obtain ⟨j, x1, x2⟩ := ioIx_mem hm
        obtain ⟨i2, y1, y2⟩ := ioAll_at hio x1
        rw [x2] at y1
        cases y1
        rw [List.getElem?_append_left (by omega)] at e2
        obtain ⟨v', z1, z2⟩ := paired_get hr x2
        have z2 : σ[i]? = some (some v') := z2
        rw [e2] at z2
        cases z2
        obtain ⟨p, sl2, d2, rfl, f2, f3, _⟩ := held i v' y2 e2
        have kj : ioOf F.sig vs j = some p := by
          unfold ioOf
          rw [if_pos x1, z1]
        obtain ⟨i3, j3, sl3, d3, w1, w2, w3, w4, w5, w6, w7, w8, w9⟩ := isIoC p ⟨j, kj⟩
        have := apart i i3 p sl2 sl3 f2 w5 f3 w6 e2 w4
        subst this
        have ej := ioIx_one hnd x1 x2 w2 w3
        subst ej
        rw [List.getElem?_append_left (by omega), updE_at hnd x1 x2 w7, putC_self] at e1
        rw [f2] at e1
        cases sl2 with
        | em => cases f3
        | im _ => cases f3
        | ow d4 =>
          cases e1
          cases S.at hl f2 e2 with
          | ow b0 h00 c0 => exact .ow w9 h00 w8
        | io k d4 =>
          cases e1
          cases S.at hl f2 e2 with
          | io h00 c0 => exact .io h00 w8
    · -- no two hold one
      have old : ∀ (i : Nat) (sl : Sl), (updE F.sig rs ds' env ++ pe)[i]? = some sl → sl.mut = true → ∃ sl0 : Sl, (env ++ pe)[i]? = some sl0 ∧ sl0.mut = true := fun i sl e m => by
        by_cases hi : i < env.length
        · rw [List.getElem?_append_left (by omega)] at e
          by_cases hm : i ∈ ioIx F.sig rs
          · obtain ⟨j, x1, x2⟩ := ioIx_mem hm
            obtain ⟨i2, y1, y2⟩ := ioAll_at hio x1
            rw [x2] at y1
            cases y1
            unfold mutAt at y2
            split at y2
            · rename_i sl0 he
              exact ⟨sl0, by rw [List.getElem?_append_left hi]; exact he, y2⟩
            · cases y2
          · rw [updE_ne hm] at e
            exact ⟨sl, by rw [List.getElem?_append_left hi]; exact e, m⟩
        · rw [List.getElem?_append_right (by omega), lu] at e
          exact ⟨sl, by rw [List.getElem?_append_right (by omega)]; exact e, m⟩
      obtain ⟨s0, a1, a2⟩ := old i sl e1 m1
      obtain ⟨s0', b1, b2⟩ := old i' sl' e2 m2
      exact S.inj i i' p s0 s0' ne a1 b1 a2 b2 e3 e4
    · obtain ⟨h1, h2⟩ := S.anc a o e n
      have ni : ¬ ∃ j, ioOf F.sig vs j = some a := fun ⟨j, z⟩ => by
        obtain ⟨_, _, _, _, _, _, _, _, _, _, _, _, h3, _⟩ := ioC j a z
        rcases h3 with h3 | h3
        · rw [h3] at e
          cases e
        · exact n h3
      have nL : ¬ Lent env F.sig rs vs a := fun z => by
        obtain ⟨_, _, _, _, _, _, _, _, _, h3, _⟩ := lentC a z
        rcases h3 with h3 | h3
        · rw [h3] at e
          cases e
        · exact n h3
      obtain ⟨g1, g2⟩ := S1.anc a o h1 ni
      exact ⟨g1, by rw [B2N a nL, g2]; show Bc a = _; rw [BcN a nL]; exact h2⟩
    · obtain ⟨b0, o, ho⟩ := S.iob a n
      by_cases hL : Lent env F.sig rs vs a
      · have ni : ¬ ∃ j, ioOf F.sig vs j = some a := fun ⟨j, z⟩ => ioNotLent j a z hL
        obtain ⟨g1, g2⟩ := S1.anc a o ho ni
        exact ⟨B2L a hL, o, g1⟩
      · rw [B2N a hL]
        by_cases hI : ∃ j, ioOf F.sig vs j = some a
        · exact S1.iob a hI
        · obtain ⟨g1, g2⟩ := S1.anc a o ho hI
          refine ⟨?_, o, g1⟩
          rw [g2]
          show Bc a = none
          rw [BcN a hL]
          exact b0
  cases r with
  | bo i => exact R.elim
  | im d =>
    refine q B2 H1 v sB2 ⟨S2, ?_⟩
    rcases hnm with e | ⟨hn, _⟩
    · rw [eqB e]
      exact R.2
    · exact R.2.thaw tT hn
  | fr d =>
    have R : SR K Ac B1 H1 (vs.map some ++ [some v]) (mkE 0 F.sig ds' ++ [.ow d]) := R
    have lm : (mkE 0 F.sig ds').length = vs.length := by rw [mkE_length (by omega)]; omega
    have e1 : (mkE 0 F.sig ds' ++ [Sl.ow d])[vs.length]? = some (.ow d) := by
      rw [← lm]
      simp
    have e2 : (vs.map some ++ [some v])[vs.length]? = some (some v) := by
      rw [List.getElem?_append_right (by simp)]
      simp
    cases R.slot _ _ _ e1 e2 with
    | @ow _ p b h0 c =>
      have hp : H p = none := h0
      obtain ⟨bp, a0, nio⟩ := S.new hp
      have nL : ¬ Lent env F.sig rs vs p := fun z => by
        obtain ⟨_, _, _, _, _, _, _, _, _, _, c2⟩ := lentC p z
        rw [hp] at c2
        cases c2
      have c2 : Cont K B2 d (H1 p) := by
        rcases hnm with e | ⟨hn, _⟩
        · rw [eqB e]
          exact c
        · exact c.thaw tT hn
      refine q B2 H1 (.ref p) sB2 ?_
      show SR K A B2 H1 (σ ++ τ ++ [some (.ref p)]) (updE F.sig rs ds' env ++ pe ++ [.ow d])
      have ln : (σ ++ τ).length = (updE F.sig rs ds' env ++ pe).length := S2.len
      -- no slot of the caller's holds p
      have no : ∀ (i : Nat) (sl : Sl), (updE F.sig rs ds' env ++ pe)[i]? = some sl → sl.mut = true → (σ ++ τ)[i]? ≠ some (some (.ref p)) := fun i sl e m z => by
        by_cases hi : i < env.length
        · have lu : (updE F.sig rs ds' env).length = env.length := updE_length
          rw [List.getElem?_append_left (by omega)] at e z
          by_cases hm : i ∈ ioIx F.sig rs
          · obtain ⟨j, x1, x2⟩ := ioIx_mem hm
            obtain ⟨i2, y1, y2⟩ := ioAll_at hio x1
            rw [x2] at y1
            cases y1
            obtain ⟨p', sl2, d2, f1, f2, f3, f4, f5, f6, f7⟩ := held i _ y2 z
            cases f1
            rw [hp] at f7
            cases f7
          · rw [updE_ne hm] at e
            obtain ⟨p', d2, o, f1, _, f2, _⟩ := (S.at hl e z).held m
            cases f1
            rw [hp] at f2
            cases f2
        · have lu : (updE F.sig rs ds' env).length = env.length := updE_length
          rw [List.getElem?_append_right (by omega), lu] at e
          have e' : (env ++ pe)[i]? = some sl := by rw [List.getElem?_append_right (by omega)]; exact e
          obtain ⟨p', d2, o, f1, _, f2, _⟩ := (S.slot i sl _ e' z).held m
          cases f1
          rw [hp] at f2
          cases f2
      refine ⟨by simp only [List.length_append, List.length_cons, List.length_nil] at ln ⊢; omega, S2.same, fun i sl ov g1 g2 => ?_, fun i i' p' sl sl' ne g1 g2 m1 m2 g3 g4 => ?_, S2.anc, S2.iob, S2.ioh⟩
      · rcases getE_snoc g1 with ⟨hi, g1⟩ | ⟨hi, rfl⟩
        · rw [List.getElem?_append_left (by rw [ln]; exact hi)] at g2
          exact S2.slot i sl ov g1 g2
        · rw [hi, ← ln] at g2
          have : ov = some (.ref p) := by simpa using g2.symm
          subst this
          exact .ow (by rw [B2N p nL]; exact b) a0 c2
      · rcases getE_snoc g1 with ⟨hi, g1⟩ | ⟨hi, rfl⟩
        · rw [List.getElem?_append_left (by rw [ln]; exact hi)] at g3
          rcases getE_snoc g2 with ⟨hi', g2⟩ | ⟨hi', rfl⟩
          · rw [List.getElem?_append_left (by rw [ln]; exact hi')] at g4
            exact S2.inj i i' p' sl sl' ne g1 g2 m1 m2 g3 g4
          · rw [hi', ← ln] at g4
            have : V.ref p = V.ref p' := by simpa using g4
            cases this
            exact no i sl g1 m1 g3
        · rw [hi, ← ln] at g3
          have : V.ref p = V.ref p' := by simpa using g3
          cases this
          rcases getE_snoc g2 with ⟨hi', g2⟩ | ⟨hi', rfl⟩
          · rw [List.getElem?_append_left (by rw [ln]; exact hi')] at g4
            exact no i' sl' g2 m2 g4
          · exact ne (hi.trans hi'.symm)
end
end PD
namespace PD
open PySem PySem.Spec PyProof.Rows L2

/-! ### where code stands -/
structure G0 where
  P : Program
  w : World
  K : PySem.W.Frag
  mg : Str → Option Value
  base : Heap
structure Ct where
  N : List Str
  sc : Scope
  fb : Str → Bool
  k : Nat
structure Cok (g : G0) (c : Ct) (X : Cx) : Prop where
  eP : X.prog = g.P
  ew : X.w = g.w
  eK : X.K = g.K
  em : X.mg = g.mg
  eb : X.base = g.base
  eN : X.N = c.N
  es : X.env.scope = c.sc
  calm : X.calm = true
  nd : X.N.Nodup
  fn : ∀ x, c.fb x = true → X.fn x = true
  room : Room c.k X.A
  gu : X.A.guards = some []
  xe : X.xe = fun _ _ => False
def Ct.blk (c : Ct) (scope : Scope) : Ct := ⟨c.N, relS scope c.sc, fun x => scope.names.lookup x == some .cell, c.k⟩
theorem Cok.blk {g : G0} {c : Ct} {X : Cx} (h : Cok g c X) (scope : Scope) (s : Shared) (H : Hp) (C : Addr) (cl : List (Str × Addr)) (fp : List Addr) :
    Cok g (c.blk scope) (X.blk s H scope (compEnvC scope cl C X.env) fp) := by
  refine ⟨h.eP, h.ew, h.eK, h.em, h.eb, h.eN, ?_, h.calm, h.nd, fun _ z => z, h.room, h.gu, rfl⟩
  show (compEnvC scope cl C X.env).scope = relS scope c.sc
  rw [← h.es]
  rfl

section
variable (g : G0) (c : Ct)
/-- the expression e does m -/
def EE (e : Expr) (m : M Vl) : Prop := ∃ t, (∀ X, Cok g c X → PE X e t) ∧ ∀ A, SEX g.K A t m
def ET (e : Expr) (m : M Bool) : Prop := ∃ t, (∀ X, Cok g c X → PT X e t) ∧ ∀ A, STX g.K A t m
def EW (e : Expr) (m : M Bool) : Prop := ∃ t, (∀ X, Cok g c X → PW X e t) ∧ ∀ A, STX g.K A t m
def EA (es : List Expr) (m : M (List Vl)) : Prop := ∃ t, (∀ X, Cok g c X → PA X es t) ∧ ∀ A, SAX g.K A t m
def EG (e : Expr) (ts : List Nat) (m : Vl → M Unit) : Prop := ∃ t, (∀ X, Cok g c X → PG X e t) ∧ ∀ A, SGX g.K A ts t m
def EGs (es : List Expr) (ts : List Nat) (m : List D → M Unit) : Prop := ∃ t, (∀ X, Cok g c X → PGs X es t) ∧ ∀ A, SGsX g.K A ts t m
def EI (tg e : Expr) (m : M (List D)) : Prop := ∃ t, (∀ X, Cok g c X → PI X tg e t) ∧ ∀ A, SIX g.K A t m
def ES (s : Stmt) (m : SM) : Prop := ∃ t, (∀ X, Cok g c X → PS X s t) ∧ ∀ A, SSX g.K A t m
def ESs (s : List Stmt) (m : SM) : Prop := ∃ t, (∀ X, Cok g c X → PSs X s t) ∧ ∀ A, SSX g.K A t m
end
/-- not starred -/
def Pl (e : Expr) : Prop := ∀ (es : List Expr) (env : PySem.Env), starEach (e :: es) env = (false, eval e env) :: starEach es env

section
variable {g : G0} {c : Ct} {e a b : Expr} {es : List Expr} {pos p : Pos} {m ma mb : M Vl} {ms : M (List Vl)} {mt mu : M Bool}
theorem ea_nil : EA g c [] cN := ⟨_, fun _ _ => pa_nil, fun _ => sa_nil⟩
theorem ea_cons (h : EE g c e m) (hs : EA g c es ms) (pl : Pl e) : EA g c (e :: es) (cA m ms) := by
  obtain ⟨t, h1, h2⟩ := h
  obtain ⟨u, h3, h4⟩ := hs
  exact ⟨_, fun X hX => pa_cons (h1 X hX) (h3 X hX) (pl es X.env), fun A => sa_cons (h2 A) (h4 A)⟩
theorem ee_var {i : Nat} {x : Str} (hN : c.N[i]? = some x) (hv : Vis c.sc x) (hd : (x == ("__debug__" : Str)) = false) (hcd : (x == ("__classdict__" : Str)) = false) : EE g c (.Name x pos) (eV i) :=
  ⟨_, fun X hX => pe_var (by rw [hX.eN]; exact hN) (by rw [hX.es]; exact hv) hd hcd, fun _ => sx_var⟩
theorem ee_int {i : Int} {j} : EE g c (.Constant (.int i) j pos) (eC (.int i)) := ⟨_, fun _ _ => pe_int, fun _ => sx_con fun _ => .int i⟩
theorem ee_bl {v : Bool} {j} : EE g c (.Constant (.bool v) j pos) (eC (.bl v)) := ⟨_, fun _ _ => pe_bl, fun _ => sx_con fun _ => .bl v⟩
theorem ee_non {j} : EE g c (.Constant .none j pos) (eC .non) := ⟨_, fun _ _ => pe_non, fun _ => sx_con fun _ => .non⟩
theorem ee_str {x : Str} {j} (h : PyData.strOk x = true) : EE g c (.Constant (.str x) j pos) (eC (.str x)) := ⟨_, fun _ _ => pe_str, fun _ => sx_con fun _ => .str x h⟩
/-- a global name of the def -/
def GlC (c : Ct) (x : Str) : Prop := c.sc.names.lookup x = some .globalImplicit
theorem gl_of {X : Cx} {x : Str} (hX : Cok g c X) (h : GlC c x) : Gl X x := by
  show X.env.scope.names.lookup x = _
  rw [hX.es]
  exact h
/-- a constant of a module -/
theorem ee_glob {x : Str} {d : D} {v : V} {u : Value} (hg : GlC c x) (hm : g.mg x = some u) (r : RelV v u) (hd : ∀ B, Rp g.K B d v) (hdb : (x == ("__debug__" : Str)) = false) : EE g c (.Name x pos) (eC d) :=
  ⟨_, fun X hX => pe_glob (gl_of hX hg) (by rw [hX.em]; exact hm) r hdb, fun _ => sx_con hd⟩

/-! ### tests -/
theorem et_val (h : EE g c e m) (he : ∀ (env : PySem.Env) whole, isTrue e env whole = (do let v ← whole; standAt e.pos; holding [v] (truthy v))) : ET g c e (mB m) := by
  obtain ⟨t, h1, h2⟩ := h
  exact ⟨_, fun X hX => pt_val (h1 X hX) (he X.env), fun A => st_val (h2 A)⟩
theorem et_not (h : ET g c e mt) : ET g c (.UnaryOp .Not e pos) (mNot mt) := by
  obtain ⟨t, h1, h2⟩ := h
  exact ⟨_, fun X hX => pt_not (h1 X hX), fun A => st_not (h2 A)⟩
theorem et_w (h : EW g c e mt) : ET g c e mt := by
  obtain ⟨t, h1, h2⟩ := h
  exact ⟨t, fun X hX => (h1 X hX).pt, h2⟩
theorem ew_and1 (h : ET g c e mt) : EW g c (.BoolOp .And [e] pos) mt := by
  obtain ⟨t, h1, h2⟩ := h
  exact ⟨_, fun X hX => pw_and1 (h1 X hX), h2⟩
theorem ew_or1 (h : ET g c e mt) : EW g c (.BoolOp .Or [e] pos) mt := by
  obtain ⟨t, h1, h2⟩ := h
  exact ⟨_, fun X hX => pw_or1 (h1 X hX), h2⟩
theorem ew_and (h : ET g c a mt) (h' : EW g c (.BoolOp .And (b :: es) pos) mu) : EW g c (.BoolOp .And (a :: b :: es) pos) (mAnd mt mu) := by
  obtain ⟨t, h1, h2⟩ := h
  obtain ⟨u, h3, h4⟩ := h'
  exact ⟨_, fun X hX => pw_and (h1 X hX) (h3 X hX), fun A => st_and (h2 A) (h4 A)⟩
theorem ew_or (h : ET g c a mt) (h' : EW g c (.BoolOp .Or (b :: es) pos) mu) : EW g c (.BoolOp .Or (a :: b :: es) pos) (mOr mt mu) := by
  obtain ⟨t, h1, h2⟩ := h
  obtain ⟨u, h3, h4⟩ := h'
  exact ⟨_, fun X hX => pw_or (h1 X hX) (h3 X hX), fun A => st_or (h2 A) (h4 A)⟩
theorem ee_not (h : EE g c e m) : EE g c (.UnaryOp .Not e pos) (eNot m) := by
  obtain ⟨t, h1, h2⟩ := h
  exact ⟨_, fun X hX => pe_not (h1 X hX), fun A => sx_not (h2 A)⟩
theorem ee_one {op} (h : EE g c e m) : EE g c (.BoolOp op [e] pos) m := by
  obtain ⟨t, h1, h2⟩ := h
  exact ⟨_, fun X hX => pe_one (h1 X hX), h2⟩
theorem ee_and (h : EE g c a ma) (h' : EE g c (.BoolOp .And (b :: es) pos) mb) : EE g c (.BoolOp .And (a :: b :: es) pos) (eAnd ma mb) := by
  obtain ⟨t, h1, h2⟩ := h
  obtain ⟨u, h3, h4⟩ := h'
  exact ⟨_, fun X hX => pe_and (h1 X hX) (h3 X hX), fun A => sx_and (h2 A) (h4 A)⟩
theorem ee_or (h : EE g c a ma) (h' : EE g c (.BoolOp .Or (b :: es) pos) mb) : EE g c (.BoolOp .Or (a :: b :: es) pos) (eOr ma mb) := by
  obtain ⟨t, h1, h2⟩ := h
  obtain ⟨u, h3, h4⟩ := h'
  exact ⟨_, fun X hX => pe_or (h1 X hX) (h3 X hX), fun A => sx_or (h2 A) (h4 A)⟩
theorem ee_if (hc : ET g c e mt) (h : EE g c a ma) (h' : EE g c b mb) : EE g c (.IfExp e a b pos) (eIf mt ma mb) := by
  obtain ⟨t, h1, h2⟩ := hc
  obtain ⟨u, h3, h4⟩ := h
  obtain ⟨v, h5, h6⟩ := h'
  exact ⟨_, fun X hX => pe_ifExp (h1 X hX) (h3 X hX) (h5 X hX), fun A => sx_if (h2 A) (h4 A) (h6 A)⟩
theorem ee_tup {x1} (h : EA g c es ms) : EE g c (.Tuple es x1 pos) (eTup ms) := by
  obtain ⟨t, h1, h2⟩ := h
  exact ⟨_, fun X hX => pe_tup (h1 X hX), fun A => sx_tup (h2 A)⟩
theorem ee_lst (h : EA g c es ms) : EE g c (.List es pos) (eLst ms) := by
  obtain ⟨t, h1, h2⟩ := h
  exact ⟨_, fun X hX => pe_lst (h1 X hX), fun A => sx_lst (h2 A)⟩

/-! ### steps by values, in general: r by the written part alone -/
def OpI (g : G0) (op : Value → Value → Sem Value) (f : List D → Option Vl) : Prop := ∃ r : R2, (∀ c X, Cok g c X → OpR X op r) ∧ PrS g.K (on2 r) f
theorem ee_bin {op : Operator} {f : List D → Option Vl} (ho : OpI g (binaryOp op) f) (h : EE g c a ma) (h' : EE g c b mb) : EE g c (.BinOp a op b pos) (eP f (cA ma (cA mb cN))) := by
  obtain ⟨r, o1, o2⟩ := ho
  obtain ⟨t, h1, h2⟩ := h
  obtain ⟨u, h3, h4⟩ := h'
  exact ⟨_, fun X hX => pe_op (o1 c X hX) (h1 X hX) (h3 X hX), fun A => sx_op o2 (h2 A) (h4 A)⟩
theorem ee_cmp {op : CmpOp} {f : List D → Option Vl} (ho : OpI g (compareOp op) f) (h : EE g c a ma) (h' : EE g c b mb) (hm : behindInMarks op b = false) : EE g c (.Compare a [op] [b] pos) (eP f (cA ma (cA mb cN))) := by
  obtain ⟨r, o1, o2⟩ := ho
  obtain ⟨t, h1, h2⟩ := h
  obtain ⟨u, h3, h4⟩ := h'
  exact ⟨_, fun X hX => pe_cmpR (o1 c X hX) (h1 X hX) (h3 X hX) hm, fun A => sx_op o2 (h2 A) (h4 A)⟩
def UnI (g : G0) (op : Value → Sem Value) (f : List D → Option Vl) : Prop := ∃ r : V → Hp → VK → Prop, (∀ c X, Cok g c X → UnR X op r) ∧ PrS g.K (on1 r) f
theorem ee_un {op : UnaryOp} {f : List D → Option Vl} (ho : UnI g (unaryOp op) f) (h : EE g c a ma) : EE g c (.UnaryOp op a pos) (eP f (cA ma cN)) := by
  obtain ⟨r, o1, o2⟩ := ho
  obtain ⟨t, h1, h2⟩ := h
  exact ⟨_, fun X hX => pe_un (o1 c X hX) (h1 X hX), fun A => sx_un o2 (h2 A)⟩
def CaI (g : G0) (f : Value) (d : List D → Option Vl) : Prop := ∃ r : List V → Hp → VK → Prop, (∀ c X, Cok g c X → CallR X f r) ∧ PrS g.K r d
theorem ee_callB {x : Str} {id : String} {d : List D → Option Vl} (ho : CaI g (.builtin id) d) (hg : GlC c x) (hm : g.mg x = none) (hv : bootBuiltins x = some (.builtin id)) (h : EA g c (e :: es) ms) (pl : Pl e)
    (hpl : ∀ env : PySem.Env, (backTo pos (starEach es env)).any (·.1) = false) (hn : x ≠ "__name__") (hdb : (x == ("__debug__" : Str)) = false) : EE g c (.Call (.Name x p) (e :: es) [] pos) (eP d ms) := by
  obtain ⟨r, o1, o2⟩ := ho
  obtain ⟨t, h1, h2⟩ := h
  exact ⟨_, fun X hX => pe_callB (o1 c X hX) (gl_of hX hg) (by rw [hX.em]; exact hm) hv (h1 X hX) hn hdb (pl es X.env) (hpl X.env), fun A => sx_prim o2 (h2 A)⟩
theorem ee_callTy {x : Str} {T : String} {d : List D → Option Vl} (ho : CaI g (.type T) d) (hg : GlC c x) (hm : g.mg x = none) (hv : bootBuiltins x = some (.type T)) (h : EA g c (e :: es) ms) (pl : Pl e)
    (hpl : ∀ env : PySem.Env, (backTo pos (starEach es env)).any (·.1) = false) (hn : x ≠ "__name__") (hdb : (x == ("__debug__" : Str)) = false) : EE g c (.Call (.Name x p) (e :: es) [] pos) (eP d ms) := by
  obtain ⟨r, o1, o2⟩ := ho
  obtain ⟨t, h1, h2⟩ := h
  exact ⟨_, fun X hX => pe_callTy (o1 c X hX) (gl_of hX hg) (by rw [hX.em]; exact hm) hv (h1 X hX) hn hdb (pl es X.env) (hpl X.env), fun A => sx_prim o2 (h2 A)⟩

/-! ### statements -/
theorem es_nil : ESs g c [] sNil := ⟨_, fun _ _ => pss_nil, fun _ => ss_nil⟩
theorem es_cons {s : Stmt} {r : List Stmt} {m n : SM} (h : ES g c s m) (h' : ESs g c r n) : ESs g c (s :: r) (sSeq m n) := by
  obtain ⟨t, h1, h2⟩ := h
  obtain ⟨u, h3, h4⟩ := h'
  exact ⟨_, fun X hX => pss_cons (h1 X hX) (h3 X hX), fun A => ss_seq (h2 A) (h4 A)⟩
theorem es_one {s : Stmt} {m : SM} (h : ES g c s m) : ESs g c [s] m := by
  obtain ⟨t, h1, h2⟩ := h
  exact ⟨_, fun X hX => pss_one (h1 X hX), h2⟩
theorem es_pass : ES g c (.Pass pos) sPass := ⟨_, fun _ _ => ps_pass, fun _ => ss_pass⟩
theorem es_brk : ES g c (.Break pos) sBrk := ⟨_, fun _ _ => ps_break, fun _ => ss_brk⟩
theorem es_cnt : ES g c (.Continue pos) sCnt := ⟨_, fun _ _ => ps_continue, fun _ => ss_cnt⟩
theorem es_ret (h : EE g c e m) : ES g c (.Return (some e) pos) (sRet m) := by
  obtain ⟨t, h1, h2⟩ := h
  exact ⟨_, fun X hX => ps_ret (h1 X hX), fun A => ss_ret (h2 A)⟩
theorem es_retN : ES g c (.Return none pos) sRetN := ⟨_, fun _ _ => ps_retN, fun _ => ss_retN⟩
theorem es_exp (h : EE g c e m) (hs : ∀ env : PySem.Env, swapsWith e none pos.line env = pure false) : ES g c (.Expr e pos) (sExp m) := by
  obtain ⟨t, h1, h2⟩ := h
  exact ⟨_, fun X hX => ps_expr (h1 X hX) (hs X.env), fun A => ss_exp (h2 A)⟩
theorem es_if {s r : List Stmt} {m n : SM} (hc : ET g c e mt) (h : ESs g c s m) (h' : ESs g c r n) : ES g c (.If e s r pos) (sIf mt m n) := by
  obtain ⟨t, h1, h2⟩ := hc
  obtain ⟨u, h3, h4⟩ := h
  obtain ⟨v, h5, h6⟩ := h'
  exact ⟨_, fun X hX => ps_if (h1 X hX) (h3 X hX) (h5 X hX), fun A => ss_if (h2 A) (h4 A) (h6 A)⟩
theorem pown {X : Cx} (hX : Cok g c X) : PassesOwn (model X.prog X.w) X.A X.env X.xe := by
  rw [hX.xe]
  exact PassesOwn.never
theorem es_whl {s : List Stmt} {m : SM} (n : Nat) (hc : ET g c e mt) (h : ESs g c s m) : ES g c (.While e s [] pos) (sWhl n mt m) := by
  obtain ⟨t, h1, h2⟩ := hc
  obtain ⟨u, h3, h4⟩ := h
  exact ⟨_, fun X hX => ps_while (pown hX) (h1 X hX) (h3 X hX), fun A => ss_whl (h2 A) (h4 A)⟩
theorem es_for {tg : Expr} {s : List Stmt} {ts : List Nat} {mi : M (List D)} {gg : Vl → M Unit} {m : SM} (hi : EI g c tg e mi) (hg : EG g c tg ts gg) (h : ESs g c s m) (hs : ∀ (env : PySem.Env) x, foldedSetIterable e env x = pure x) :
    ES g c (.For tg e s [] pos) (sFor mi gg m) := by
  obtain ⟨t, h1, h2⟩ := hi
  obtain ⟨u, h3, h4⟩ := hg
  obtain ⟨v, h5, h6⟩ := h
  exact ⟨_, fun X hX => ps_for (pown hX) hX.calm (h1 X hX) (h3 X hX) (h5 X hX) (hs X.env), fun A => ss_for (h2 A) (h4 A) (h6 A)⟩
theorem eg_name {i : Nat} {x : Str} (hN : c.N[i]? = some x) (hv : Loc c.sc x) (hf : c.fb x = true ∨ c.sc.names.lookup x = some .local) : EG g c (.Name x pos) [i] (gN i) :=
  ⟨_, fun X hX => pg_name hX.nd (by rw [hX.eN]; exact hN) (by rw [hX.es]; exact hv) (hf.elim (fun z => .inl (hX.fn x z)) fun z => .inr (by rw [hX.es]; exact z)), fun _ => sg_name⟩
theorem egs_nil : EGs g c [] [] gsN := ⟨_, fun _ _ => pgs_nil, fun _ => sgs_nil⟩
theorem egs_cons {ts us : List Nat} {gg : Vl → M Unit} {gs : List D → M Unit} (h : EG g c e ts gg) (h' : EGs g c es us gs) (hs : ∀ env : PySem.Env, (assignEach (e :: es) env).map (·.2) = assign e env :: (assignEach es env).map (·.2)) : EGs g c (e :: es) (ts ++ us) (gsC gg gs) := by
  obtain ⟨t, h1, h2⟩ := h
  obtain ⟨u, h3, h4⟩ := h'
  exact ⟨_, fun X hX => pgs_cons (h1 X hX) (h3 X hX) (hs X.env), fun A => sgs_cons (h2 A) (h4 A)⟩
theorem eg_tup {ts : List Nat} {gs : List D → M Unit} {k n : Nat} (h : EGs g c es ts gs) (hn : ∀ env : PySem.Env, (assignEach es env).length = n) (hst : ∀ env : PySem.Env, (assignEach es env).findIdx? (·.1) = none) : EG g c (.Tuple es k pos) ts (gT n gs) := by
  obtain ⟨t, h1, h2⟩ := h
  exact ⟨gTup g.K n t, fun X hX => by rw [← hX.eK]; exact pg_tup hX.calm (h1 X hX) (hn X.env) (hst X.env), fun A => sg_tup (h2 A)⟩
/-- name = value -/
theorem es_set {i : Nat} {x : Str} {pos' : Pos} (hN : c.N[i]? = some x) (hv : Loc c.sc x) (h : EE g c e m) (hs : ∀ env : PySem.Env, swapsWith e (some (.Name x pos')) pos.line env = pure false) (hf : c.fb x = true ∨ c.sc.names.lookup x = some .local) :
    ES g c (.Assign [.Name x pos'] e pos) (sAsg m (gN i)) := by
  obtain ⟨t, h1, h2⟩ := h
  exact ⟨_, fun X hX => ps_set hX.nd (by rw [hX.eN]; exact hN) (by rw [hX.es]; exact hv) (h1 X hX) (hs X.env) (hf.elim (fun z => .inl (hX.fn x z)) fun z => .inr (by rw [hX.es]; exact z)), fun A => ss_asg (h2 A) sg_name⟩
theorem es_asg {tg : Expr} {ts : List Nat} {gg : Vl → M Unit} (h : EE g c e m) (h' : EG g c tg ts gg) (hs : ∀ env : PySem.Env, swapsWithSole [tg] e pos.line env = pure false) (hw : ∀ env : PySem.Env, env.scope = c.sc → swappedStores [tg] e env = pure none)
    (h1 : ∀ env : PySem.Env, (assignEach [tg] env).map (·.2) = [assign tg env]) : ES g c (.Assign [tg] e pos) (sAsg m gg) := by
  obtain ⟨t, h2, h3⟩ := h
  obtain ⟨u, h4, h5⟩ := h'
  exact ⟨_, fun X hX => ps_asg (h2 X hX) (h4 X hX) (hs X.env) (hw X.env hX.es) (h1 X.env), fun A => ss_asg (h3 A) (h5 A)⟩

/-! ### what is walked -/
def mSeq (m : M Vl) : M (List D) := bd m fun r => bd (frz r.hold) fun d => match d with
  | .lst ds => rt ds
  | .tup ds => rt ds
  | _ => fun _ => none
def mLst (m : M Vl) : M (List D) := bd m fun r => bd (frz r.hold) fun d => match d with
  | .lst ds => rt ds
  | _ => fun _ => none
def mTup (m : M Vl) : M (List D) := bd m fun r => bd (frz r.hold) fun d => match d with
  | .tup ds => rt ds
  | _ => fun _ => none
theorem wd_list {K : PySem.W.Frag} {B0 : Hp} {a : Addr} {xs : List V} {ds : List D} (h : SqL K B0 a xs) (r : Rps K B0 ds xs) : WD K (Itl K a) B0 ds := by
  have hl := r.length
  refine ⟨fun i H B hi s1 s2 => walk_list.goes i H (by omega) (sameL s2 (sameL s1 h)), fun H B s1 s2 => ?_, fun i H B x H' hi s1 s2 y => ?_⟩
  · rw [hl]
    exact walk_list.stops H (sameL s2 (sameL s1 h))
  · obtain ⟨e1, e2⟩ := walk_list.yields i H x H' (by omega) (sameL s2 (sameL s1 h)) y
    obtain ⟨d, h1, h2⟩ := r.getV e2
    exact ⟨d, h1, .inl ⟨e1, h2.mono s1⟩⟩
theorem wd_tup {K : PySem.W.Frag} {B0 : Hp} {a : Addr} {xs : List V} {ds : List D} (h : SqT K B0 a xs) (r : Rps K B0 ds xs) : WD K (Itt K a) B0 ds := by
  have hl := r.length
  refine ⟨fun i H B hi s1 s2 => walk_tup.goes i H (by omega) (sameT s2 (sameT s1 h)), fun H B s1 s2 => ?_, fun i H B x H' hi s1 s2 y => ?_⟩
  · rw [hl]
    exact walk_tup.stops H (sameT s2 (sameT s1 h))
  · obtain ⟨e1, e2⟩ := walk_tup.yields i H x H' (by omega) (sameT s2 (sameT s1 h)) y
    obtain ⟨d, h1, h2⟩ := r.getV e2
    exact ⟨d, h1, .inl ⟨e1, h2.mono s1⟩⟩
theorem si_list {K : PySem.W.Frag} {A : Anc} {t : TE} (h : SEX K A t m) : SIX K A (iList K t) (mLst m) := fun σ τ B H env pe env' ds R S hl e q => by
  obtain ⟨r, e1, he, e⟩ := bd_inv e
  obtain ⟨d, e2, hf, e⟩ := bd_inv e
  split at e
  · rename_i ds'
    cases e
    refine h σ τ B H env pe e1 r _ S hl he fun B1 H1 v s1 hl1 hv => ?_
    obtain ⟨B2, s2, S2, hh⟩ := hv.held
    obtain ⟨B3, s3, S3, hl3, rr⟩ := frz_ok S2 hl1 hh hf
    cases rr with
    | @lst a xs _ hs r2 => exact ⟨a, rfl, ⟨xs, .of (S3.same _ _ hs)⟩, q B3 H1 _ ((s1.trans s2).trans s3) hl3 S3 (wd_list (.of hs) r2)⟩
  · cases e
theorem si_tup {K : PySem.W.Frag} {A : Anc} {t : TE} (h : SEX K A t m) : SIX K A (iTup K t) (mTup m) := fun σ τ B H env pe env' ds R S hl e q => by
  obtain ⟨r, e1, he, e⟩ := bd_inv e
  obtain ⟨d, e2, hf, e⟩ := bd_inv e
  split at e
  · rename_i ds'
    cases e
    refine h σ τ B H env pe e1 r _ S hl he fun B1 H1 v s1 hl1 hv => ?_
    obtain ⟨B2, s2, S2, hh⟩ := hv.held
    obtain ⟨B3, s3, S3, hl3, rr⟩ := frz_ok S2 hl1 hh hf
    cases rr with
    | @tup a xs _ hs r2 => exact ⟨a, rfl, ⟨xs, (hs.same S3.same).sq⟩, q B3 H1 _ ((s1.trans s2).trans s3) hl3 S3 (wd_tup hs.sq r2)⟩
  · cases e
theorem ei_list {tg : Expr} (h : EE g c e m) : EI g c tg e (mLst m) := by
  obtain ⟨t, h1, h2⟩ := h
  exact ⟨iList g.K t, fun X hX => by rw [← hX.eK]; exact pi_list (h1 X hX), fun A => si_list (h2 A)⟩
theorem ei_tup {tg : Expr} (h : EE g c e m) : EI g c tg e (mTup m) := by
  obtain ⟨t, h1, h2⟩ := h
  exact ⟨iTup g.K t, fun X hX => by rw [← hX.eK]; exact pi_tup (h1 X hX), fun A => si_tup (h2 A)⟩
/-- ranges -/
def rngD (lo : Int) (n : Nat) : List D := (List.range n).map fun i : Nat => D.int (lo + (i : Int))
theorem wd_range {K : PySem.W.Frag} {B0 : Hp} {lo : Int} {n : Nat} : WD K (Itr lo n) B0 (rngD lo n) := by
  have hl : (rngD lo n).length = n := by simp [rngD]
  refine ⟨fun i H B hi _ _ => ?_, fun H B _ _ => ?_, fun i H B x H' hi _ _ y => ?_⟩
  · show i < n
    omega
  · show n ≤ (rngD lo n).length
    omega
  · obtain ⟨e1, e2⟩ := y
    refine ⟨.int (lo + (i : Int)), ?_, .inl ⟨e1, by rw [e2]; exact .int _⟩⟩
    rw [hl] at hi
    simp [rngD, hi]
def in62 (i : Int) : Bool := decide (-(2 ^ 62) ≤ i) && decide (i < 2 ^ 62)
def mR1 (ms : M (List Vl)) : M (List D) := bd ms fun rs e => match cnts e rs with
  | some [.int j] => if in62 j = true then some (rngD 0 j.toNat, e) else none
  | _ => none
def mR2 (ms : M (List Vl)) : M (List D) := bd ms fun rs e => match cnts e rs with
  | some [.int i, .int j] => if (in62 i && in62 j) = true then some (rngD i (j - i).toNat, e) else none
  | _ => none
theorem in62_ok {i : Int} (h : in62 i = true) : -(2 ^ 62) ≤ i ∧ i < 2 ^ 62 := by
  have h : decide (-(2 ^ 62) ≤ i) = true ∧ decide (i < 2 ^ 62) = true := by simpa [in62] using h
  exact ⟨of_decide_eq_true h.1, of_decide_eq_true h.2⟩
theorem si_r1 {K : PySem.W.Frag} {A : Anc} {t : TA} (h : SAX K A t ms) : SIX K A (iRng1 t) (mR1 ms) := fun σ τ B H env pe env' ds R S hl e q => by
  obtain ⟨rs, e1, he, e⟩ := bd_inv e
  split at e
  · rename_i j hc
    split at e
    · rename_i hj
      cases e
      refine h σ τ B H env pe _ rs _ S hl he fun B1 H1 vs s1 hl1 S1 hr => ?_
      have rr := Hv.rrs S1 hl1 hr hc
      cases rr with
      | cons r1 r2 =>
        cases r2
        obtain ⟨h1, h2⟩ := in62_ok hj
        rw [r1.int]
        exact ⟨j, rfl, h1, h2, q B1 H1 _ s1 hl1 S1 wd_range⟩
    · cases e
  · cases e
theorem si_r2 {K : PySem.W.Frag} {A : Anc} {t : TA} (h : SAX K A t ms) : SIX K A (iRng2 t) (mR2 ms) := fun σ τ B H env pe env' ds R S hl e q => by
  obtain ⟨rs, e1, he, e⟩ := bd_inv e
  split at e
  · rename_i i j hc
    split at e
    · rename_i hj
      cases e
      refine h σ τ B H env pe _ rs _ S hl he fun B1 H1 vs s1 hl1 S1 hr => ?_
      have rr := Hv.rrs S1 hl1 hr hc
      cases rr with
      | cons r1 r2 =>
        cases r2 with
        | cons r2 r3 =>
          cases r3
          have hj : in62 i = true ∧ in62 j = true := by simpa using hj
          obtain ⟨h1, h2⟩ := in62_ok hj.1
          obtain ⟨h3, h4⟩ := in62_ok hj.2
          rw [r1.int, r2.int]
          exact ⟨i, j, rfl, ⟨h1, h2, h3, h4⟩, q B1 H1 _ s1 hl1 S1 wd_range⟩
    · cases e
  · cases e
theorem ei_r1 {tg : Expr} (hg : GlC c "range") (hm : g.mg "range" = none) (h : EA g c [a] ms) (pl : Pl a) : EI g c tg (.Call (.Name "range" p) [a] [] pos) (mR1 ms) := by
  obtain ⟨t, h1, h2⟩ := h
  exact ⟨_, fun X hX => pi_range1 (gl_of hX hg) (by rw [hX.em]; exact hm) (h1 X hX) (by rw [pl [] X.env]; rfl), fun A => si_r1 (h2 A)⟩
theorem ei_r2 {tg : Expr} (hg : GlC c "range") (hm : g.mg "range" = none) (h : EA g c [a, b] ms) (pl : Pl a) (pl2 : Pl b) : EI g c tg (.Call (.Name "range" p) [a, b] [] pos) (mR2 ms) := by
  obtain ⟨t, h1, h2⟩ := h
  exact ⟨_, fun X hX => pi_range2 (gl_of hX hg) (by rw [hX.em]; exact hm) (h1 X hX) (by rw [pl [b] X.env, pl2 [] X.env]; rfl) (by rw [pl2 [] X.env]; rfl), fun A => si_r2 (h2 A)⟩

/-! ### comprehensions -/
def EPTs (g : G0) (c : Ct) (es : List Expr) (m : M Bool) : Prop := ∃ t, (∀ X, Cok g c X → PTs X es t) ∧ ∀ A, STX g.K A t m
theorem ep_nil : EPTs g c [] (rt true) := ⟨_, fun _ _ => pts_nil, fun A σ τ B H env pe env' b Q S hl e q => by
  cases e
  exact q B H (Same.refl _) hl S⟩
theorem ep_one (h : ET g c e mt) : EPTs g c [e] mt := by
  obtain ⟨t, h1, h2⟩ := h
  exact ⟨_, fun X hX => pts_one (h1 X hX), h2⟩
theorem ee_comp {elt tg iter : Expr} {ifs : List Expr} {scope : Scope} {own : List (Str × Nat)} {ts : List Nat} {mi : M (List D)} {gg : Vl → M Unit} {me : M Vl} (ok : blkC c.N c.sc scope own = true) (nd : (own.map (·.2)).Nodup) (ht : ∀ i ∈ ts, i ∈ own.map (·.2))
    (hi : EI g c tg iter mi) (hg : EG g (c.blk scope) tg ts gg) (hc : EPTs g (c.blk scope) ifs mt) (he : EE g (c.blk scope) elt me) (hs : ∀ (env : PySem.Env) x, foldedSetIterable iter env x = pure x) :
    EE g c (.ListComp elt [⟨tg, iter, ifs, 0⟩] scope pos) (eComp (own.map (·.2)) mi gg mt me) := by
  obtain ⟨t1, h1, k1⟩ := hi
  obtain ⟨t2, h2, k2⟩ := hg
  obtain ⟨t3, h3, k3⟩ := hc
  obtain ⟨t4, h4, k4⟩ := he
  refine ⟨_, fun X hX => pe_lc hX.calm hX.nd (h1 X hX) (blkOk_by (by rw [hX.eN, hX.es]; exact ok)) (fun s H C cl fp => h2 _ (hX.blk scope s H C cl fp)) (fun s H C cl fp => h3 _ (hX.blk scope s H C cl fp)) (fun s H C cl fp => h4 _ (hX.blk scope s H C cl fp)) (hs X.env), fun A => sx_comp nd ht (k1 A) (k2 A) (k3 A) (k4 A)⟩
/-- y = [..] where the store is done within the comprehension's frame -/
theorem es_setLc {i : Nat} {y : Str} {py : Pos} {elt tg iter : Expr} {ifs : List Expr} {scope : Scope} {own : List (Str × Nat)} {spos : Pos} {ts : List Nat} {mi : M (List D)} {gg : Vl → M Unit} {me : M Vl} (hy : c.N[i]? = some y) (hyl : c.sc.names.lookup y = some .local)
    (hsw : ∀ env : PySem.Env, env.scope = c.sc → swapsWith (.ListComp elt [⟨tg, iter, ifs, 0⟩] scope pos) (some (.Name y py)) spos.line env = pure true)
    (ok : blkC c.N c.sc scope own = true) (nd : (own.map (·.2)).Nodup) (ht : ∀ i ∈ ts, i ∈ own.map (·.2)) (hi : EI g c tg iter mi) (hg : EG g (c.blk scope) tg ts gg) (hc : EPTs g (c.blk scope) ifs mt) (he : EE g (c.blk scope) elt me)
    (hs : ∀ (env : PySem.Env) x, foldedSetIterable iter env x = pure x) :
    ES g c (.Assign [.Name y py] (.ListComp elt [⟨tg, iter, ifs, 0⟩] scope pos) spos) (sAsg (eComp (own.map (·.2)) mi gg mt me) (gN i)) := by
  obtain ⟨t1, h1, k1⟩ := hi
  obtain ⟨t2, h2, k2⟩ := hg
  obtain ⟨t3, h3, k3⟩ := hc
  obtain ⟨t4, h4, k4⟩ := he
  refine ⟨_, fun X hX => ps_setLc hX.calm hX.nd (by rw [hX.eN]; exact hy) (by rw [hX.es]; exact hyl) (hsw X.env hX.es) (h1 X hX) (blkOk_by (by rw [hX.eN, hX.es]; exact ok)) (fun s H C cl fp => h2 _ (hX.blk scope s H C cl fp)) (fun s H C cl fp => h3 _ (hX.blk scope s H C cl fp)) (fun s H C cl fp => h4 _ (hX.blk scope s H C cl fp)) (hs X.env), fun A => ss_asg (sx_comp nd ht (k1 A) (k2 A) (k3 A) (k4 A)) sg_name⟩
end
end PD
namespace PD
open PySem PySem.Spec PyProof.Rows L2

/-! ### a def's promise where no repr is under way -/
structure FnG (g : G0) (k : Nat) (f : Addr) (fd : FuncData) (ps : List Str) (sp : Sp) : Prop where
  len : ∀ vs H Q, sp vs H Q E0 → vs.length = ps.length
  run : ∀ (A : Around) (outer : List PySem.Env) (s : Shared) (H : Hp) (args : Args) (us : List Value) (vs : List V) (Q : VK), Room k A → A.guards = some [] → Env0 g.P g.w g.K g.mg g.base A outer s H →
    BindsTo s fd args (ps.zip us) → Vals vs us → sp vs H Q E0 → codeAny (model g.P g.w) A (.call (.ref f) args) (CR CX0 outer g.P g.w H s Q E0) s

/-- the def x stands in the text and does F -/
structure FnI (g : G0) (x : Str) (k : Nat) (F : Fs) : Prop where
  ex : ∃ (f : Addr) (fd : FuncData) (ps : List Str), g.mg x = some (.ref f) ∧ PySem.W.keepIn g.K (.ref f) = true ∧ Binds g.K fd ps [] ∧ FnG g k f fd ps (spF g.K F)
theorem FnI.mono {g : G0} {x : Str} {j k : Nat} {F : Fs} (h : FnI g x j F) (hj : j ≤ k) : FnI g x k F := by
  obtain ⟨f, fd, ps, h1, h2, h3, h4⟩ := h.ex
  exact ⟨f, fd, ps, h1, h2, h3, ⟨h4.len, fun A outer s H args us vs Q hr => h4.run A outer s H args us vs Q (hr.mono hj)⟩⟩

/-! ### a call of a def -/
def nmOut : List Bool → List D → Bool
  | true :: bs, d :: ds => d.nmC && nmOut bs ds
  | false :: bs, _ :: ds => nmOut bs ds
  | _, _ => true
theorem nmOut_at : ∀ {sig : List Bool} {ds : List D} {j : Nat} {d : D}, nmOut sig ds = true → sig[j]? = some true → ds[j]? = some d → d.nmC = true
  | [], _, _, _, _, h, _ => by simp at h
  | _ :: _, [], _, _, _, _, h => by simp at h
  | b :: bs, d :: ds, 0, _, h, h1, h2 => by
    simp at h1 h2
    subst h1 h2
    have h : d.nmC = true ∧ nmOut bs ds = true := by simpa [nmOut] using h
    exact h.1
  | b :: bs, d :: ds, j + 1, d', h, h1, h2 => by
    refine nmOut_at (sig := bs) (ds := ds) (j := j) ?_ (by simpa using h1) (by simpa using h2)
    cases b with
    | true =>
      have h : d.nmC = true ∧ nmOut bs ds = true := by simpa [nmOut] using h
      exact h.2
    | false => exact h
def disj (xs ys : List Nat) : Bool := xs.all fun i => !ys.contains i
def callE (F : Fs) (rs : List Vl) : M Vl := fun e => match cnts e rs with
  | some ds => if (ioAll e F.sig rs && decide (ioIx F.sig rs).Nodup && disj (ioIx F.sig rs) (brIx e F.sig rs)) = true then match F.sem ds with
      | some (r, ds') => if ((brIx e F.sig rs).isEmpty || (r.nm && nmOut F.sig ds')) = true then some (r, updE F.sig rs ds' e) else none
      | none => none
    else none
  | none => none
def frzA : List Bool → List Vl → M (List Vl)
  | false :: bs, .bo i :: rs => bd (frz (.bo i)) fun d => bd (frzA bs rs) fun r => rt (.im d :: r)
  | _ :: bs, v :: rs => bd (frzA bs rs) fun r => rt (v :: r)
  | _, rs => rt rs
def eCall (F : Fs) (ms : M (List Vl)) : M Vl := bd ms fun rs e => match callE F rs e with
  | some x => some x
  | none => bd (frzA F.sig rs) (callE F) e
section
variable {K : PySem.W.Frag} {A : Anc} {σ τ : L2.St} {pe : Env}
theorem callE_ok {F : Fs} {rs : List Vl} {vs : List V} {B H : Hp} {env env' : Env} {r : Vl} (S : SR K A B H (σ ++ τ) (env ++ pe)) (hl : σ.length = env.length) (hr : Paired (Hv K B σ) rs vs) (e : callE F rs env = some (r, env')) (Q : VK)
    (q : ∀ B' H' v, Same B B' → σ.length = env'.length → VR K A B' H' σ τ env' pe r v → Q v H') (E : XK) : spF K F vs H Q E := by
  unfold callE at e
  split at e
  · rename_i ds hc
    split at e
    · rename_i hk
      have hk : (ioAll env F.sig rs = true ∧ (ioIx F.sig rs).Nodup) ∧ disj (ioIx F.sig rs) (brIx env F.sig rs) = true := by simpa using hk
      split at e
      · rename_i r' ds' hf
        split at e
        · rename_i hn
          cases e
          refine call_ok S hl hr hc hk.1.1 hk.1.2 (fun i hi => ?_) hf ?_ Q (fun B' H' v s h => q B' H' v s (by rw [updE_length]; exact hl) h) E
          · have := List.all_eq_true.mp hk.2 i hi
            simpa using this
          · rcases Bool.or_eq_true_iff.mp hn with h | h
            · exact .inl (by simpa using h)
            · have h := Bool.and_eq_true_iff.mp h
              exact .inr ⟨h.1, fun j d h1 h2 => nmOut_at h.2 h1 h2⟩
        · cases e
      · cases e
    · cases e
  · cases e
theorem frzA_ok : ∀ {sig : List Bool} {rs : List Vl} {vs : List V} {B H : Hp} {env env' : Env} {rs' : List Vl}, SR K A B H (σ ++ τ) (env ++ pe) → σ.length = env.length → Paired (Hv K B σ) rs vs → frzA sig rs env = some (rs', env') →
    ∃ B', Same B B' ∧ SR K A B' H (σ ++ τ) (env' ++ pe) ∧ σ.length = env'.length ∧ Paired (Hv K B' σ) rs' vs
  | [], rs, vs, B, H, env, env', rs', S, hl, hr, e => by
    cases rs <;> (cases e; exact ⟨B, Same.refl _, S, hl, hr⟩)
  | b :: bs, [], vs, B, H, env, env', rs', S, hl, hr, e => by
    cases b <;> (cases e; exact ⟨B, Same.refl _, S, hl, hr⟩)
  | b :: bs, v :: rs, u :: vs, B, H, env, env', rs', S, hl, .cons h t, e => by
    have keep : ∀ {e' : bd (frzA bs rs) (fun r => rt (v :: r)) env = some (rs', env')}, ∃ B', Same B B' ∧ SR K A B' H (σ ++ τ) (env' ++ pe) ∧ σ.length = env'.length ∧ Paired (Hv K B' σ) rs' (u :: vs) := by
      intro e'
      obtain ⟨r1, e1, h1, h2⟩ := bd_inv e'
      cases h2
      obtain ⟨B1, s1, S1, hl1, p1⟩ := frzA_ok S hl t h1
      exact ⟨B1, s1, S1, hl1, .cons (h.mono s1) p1⟩
    cases b with
    | true => exact keep (e' := e)
    | false =>
      cases v with
      | im d => exact keep (e' := e)
      | fr d => exact keep (e' := e)
      | bo i =>
        obtain ⟨d, e1, h1, e⟩ := bd_inv e
        obtain ⟨r1, e2, h2, e⟩ := bd_inv e
        cases e
        obtain ⟨B1, s1, S1, hl1, rr⟩ := frz_ok S hl h h1
        obtain ⟨B2, s2, S2, hl2, p2⟩ := frzA_ok S1 hl1 (Paired.mapP t fun _ _ z => z.mono s1) h2
        exact ⟨B2, s1.trans s2, S2, hl2, .cons (rr.mono s2) p2⟩
theorem sx_call {F : Fs} {t : TA} {ms : M (List Vl)} (h : SAX K A t ms) : SEX K A (tCall (spF K F) [] E0 t) (eCall F ms) := fun σ τ B H env pe env' r Q S hl e q => by
  obtain ⟨rs, e1, he, e⟩ := bd_inv e
  refine h σ τ B H env pe e1 rs _ S hl he fun B1 H1 vs s1 hl1 S1 hr => ?_
  show spF K F (vs ++ []) H1 Q E0
  rw [List.append_nil]
  split at e
  · rename_i x hx
    cases e
    exact callE_ok S1 hl1 hr hx Q (fun B2 H2 v s2 => q B2 H2 v (s1.trans s2)) _
  · obtain ⟨rs2, e2, h2, e⟩ := bd_inv e
    obtain ⟨B2, s2, S2, hl2, p2⟩ := frzA_ok S1 hl1 hr h2
    exact callE_ok S2 hl2 p2 e Q (fun B3 H3 v s3 => q B3 H3 v ((s1.trans s2).trans s3)) _
end
section
variable {g : G0} {c : Ct} {e : Expr} {es : List Expr} {pos p : Pos} {ms : M (List Vl)}
theorem runG {X : Cx} {f : Addr} {fd : FuncData} {ps : List Str} {sp : Sp} {k : Nat} (hX : Cok g c X) (F : FnG g k f fd ps sp) (hk : k ≤ c.k) (hb : Binds g.K fd ps []) {pins : List (Addr × Obj)} {σ : L2.St} {H : Hp} {s : Shared} {Q : VK} {us : List Value} {vs : List V} (I : Inv X pins σ H s) (r : Vals vs us) (h : sp vs H Q E0) :
    wpAny (model X.prog X.w) X.A (call (.ref f) us) (EP X pins σ Q) X.xe s := by
  have e0 := I.env0
  rw [hX.eP, hX.ew, hX.eK, hX.em, hX.eb] at e0
  have hl : (us ++ ([] : List Value)).length = ps.length := by
    rw [List.append_nil, ← r.length]
    exact F.len _ _ _ h
  have kin : g.K.In s.heap := by
    rw [← hX.eK]
    exact I.kIn
  have hb' := hb s us kin hl
  rw [List.append_nil] at hb'
  have run := F.run X.A X.stack s H ⟨us, []⟩ us vs Q (hX.room.mono hk) hX.gu e0 hb' r h
  rw [← hX.eP, ← hX.ew] at run
  refine wpAny_call (codeAny_mono run fun r s' hq => ?_)
  cases r with
  | error e => exact hq.elim
  | ok fl =>
    cases fl with
    | ret u => exact I.after hq
    | next => exact hq.elim
    | brk => exact hq.elim
    | cont => exact hq.elim
theorem ee_call {x : Str} {k : Nat} {F : Fs} (hF : FnI g x k F) (hk : k ≤ c.k) (hg : GlC c x) (h : EA g c (e :: es) ms) (pl : Pl e) (hpl : ∀ env : PySem.Env, (backTo pos (starEach es env)).any (·.1) = false) (hdb : (x == ("__debug__" : Str)) = false) :
    EE g c (.Call (.Name x p) (e :: es) [] pos) (eCall F ms) := by
  obtain ⟨f, fd, ps, f1, f2, f3, f4⟩ := hF.ex
  obtain ⟨t, h1, h2⟩ := h
  refine ⟨tCall (spF g.K F) [] E0 t, fun X hX => ⟨fun pins s σ H Q I hq => ?_⟩, fun A => sx_call (h2 A)⟩
  refine wpAny_Call_Name_kw (ld_glob I (gl_of hX hg) (by rw [hX.em]; exact f1) ?_ hdb)
  have hkp : PySem.W.keepIn X.K (.ref f) = true := by rw [hX.eK]; exact f2
  refine PySem.W.callWith_K (h₀ := X.base) I.ok.mod.kin hkp (thn ((h1 X hX).run pos pins s σ H _ I hq) fun us s1 ⟨vs, H1, I1, r, q⟩ => ⟨I1.kIn, ?_⟩) (pl es X.env) (hpl X.env)
  refine runG hX f4 hk f3 I1 r ?_
  have q : spF g.K F (vs ++ []) H1 Q E0 := q
  rwa [List.append_nil] at q
end

/-! ### a def by its body -/
def outE : List Bool → Nat → Env → List D → Option (List D)
  | b :: bs, k, e, d :: ds => match outE bs (k + 1) e ds with
    | none => none
    | some r => if b = true then match e[k]? with
        | some (.io j d') => if j = k then some (d' :: r) else none
        | _ => none
      else some (d :: r)
  | _, _, _, _ => some []
def retV (e : Env) : Vl → Option Vl
  | .im d => some (.im d)
  | .fr d => some (.fr d)
  | .bo i => match e[i]? with
    | some (.ow d) => some (.fr d)
    | some (.im d) => some (.im d)
    | _ => none
def runF (sig : List Bool) (n : Nat) (body : SM) (ds : List D) : Option (Vl × List D) :=
  if ds.length = sig.length then match body (mkE 0 sig ds ++ List.replicate (n - ds.length) .em) with
    | some (.nx, e) => match outE sig 0 e ds with
      | some o => some (.im .non, o)
      | none => none
    | some (.rt r, e) => match retV e r, outE sig 0 e ds with
      | some r', some o => some (r', o)
      | _, _ => none
    | _ => none
  else none
theorem outE_at : ∀ {sig : List Bool} {k : Nat} {e : Env} {ds o : List D}, ds.length = sig.length → outE sig k e ds = some o → o.length = ds.length ∧
    ∀ (j : Nat) (b : Bool) (d : D), sig[j]? = some b → o[j]? = some d → (b = true ∧ e[k + j]? = some (.io (k + j) d)) ∨ (b = false ∧ ds[j]? = some d)
  | [], k, e, ds, o, hl, h => by
    have : ds = [] := List.length_eq_zero_iff.mp (by simpa using hl)
    subst this
    cases h
    exact ⟨rfl, fun j b d h => by simp at h⟩
  | b :: bs, k, e, [], o, hl, h => by simp at hl
  | b :: bs, k, e, d :: ds, o, hl, h => by
    unfold outE at h
    split at h
    · cases h
    · rename_i r hr
      obtain ⟨h1, h2⟩ := outE_at (sig := bs) (k := k + 1) (by simpa using hl) hr
      split at h
      · rename_i hb
        split at h
        · rename_i j0 d' he
          split at h
          · rename_i hj
            cases h
            subst hj
            refine ⟨by simp [h1], fun j b' d2 g1 g2 => ?_⟩
            cases j with
            | zero =>
              simp at g1 g2
              subst g1 g2
              exact .inl ⟨hb, he⟩
            | succ j =>
              have := h2 j b' d2 (by simpa using g1) (by simpa using g2)
              rw [show j0 + 1 + j = j0 + (j + 1) by omega] at this
              simpa using this
          · cases h
        · cases h
      · rename_i hb
        cases h
        refine ⟨by simp [h1], fun j b' d2 g1 g2 => ?_⟩
        cases j with
        | zero =>
          simp at g1 g2
          subst g1 g2
          exact .inr ⟨by simpa using hb, rfl⟩
        | succ j =>
          have := h2 j b' d2 (by simpa using g1) (by simpa using g2)
          rw [show k + 1 + j = k + (j + 1) by omega] at this
          simpa using this
section
variable {K : PySem.W.Frag} {A : Anc}
theorem SR.ems {B H : Hp} {σ : L2.St} {env : Env} (S : SR K A B H σ env) (n : Nat) : SR K A B H (σ ++ List.replicate n none) (env ++ List.replicate n .em) := by
  refine S.sub (by simp [S.len]) id (fun _ _ _ _ _ _ _ _ h => h) (fun i sl e ne => ?_)
  by_cases hi : i < env.length
  · rw [List.getElem?_append_left hi] at e
    exact ⟨e, by rw [List.getElem?_append_left (by rw [S.len]; exact hi)]; rfl⟩
  · rw [List.getElem?_append_right (by omega), List.getElem?_replicate] at e
    split at e
    · cases e
      exact absurd rfl ne
    · cases e
/-- the parameters behind the body -/
theorem params_end {sig : List Bool} {ds o : List D} {vs : List V} {B H B1 H1 : Hp} {σ : L2.St} {env : Env} (S0 : SR K A B H (vs.map some) (mkE 0 sig ds)) (hd : ds.length = sig.length) (s : Same B B1) (S : SR K A B1 H1 σ env) (ho : outE sig 0 env ds = some o) :
    o.length = ds.length ∧ SR K A B1 H1 (vs.map some) (mkE 0 sig o) := by
  obtain ⟨h1, h2⟩ := outE_at hd ho
  refine ⟨h1, ?_⟩
  have lv : vs.length = sig.length := by
    have := S0.len
    rw [List.length_map, mkE_length hd] at this
    exact this
  refine ⟨by rw [List.length_map, mkE_length (by omega)]; omega, S.same, fun j sl ov e1 e2 => ?_, fun i j p sl sl' ne e1 e2 m1 m2 e3 e4 => ?_, S.anc, S.iob, S.ioh⟩
  · obtain ⟨b, d, g1, g2, rfl⟩ := mkE_get e1
    have hj : j < ds.length := by
      have := (List.getElem?_eq_some_iff.mp g1).1
      omega
    have hd0 := List.getElem?_eq_getElem hj
    have old := S0.slot j _ ov (mkE_at (k := 0) g1 hd0) e2
    rcases h2 j b d g1 g2 with ⟨rfl, he⟩ | ⟨rfl, hds⟩
    · rw [if_pos rfl] at old ⊢
      rw [Nat.zero_add] at he old ⊢
      cases old with
      | @io _ p _ a1 c1 =>
        have hi := (List.getElem?_eq_some_iff.mp he).1
        have hs := List.getElem?_eq_getElem (l := σ) (i := j) (by rw [S.len]; exact hi)
        cases hv : σ[j]'(by rw [S.len]; exact hi) with
        | none =>
          rw [hv] at hs
          cases S.slot j _ _ he hs
        | some v =>
          rw [hv] at hs
          cases S.slot j _ _ he hs with
          | @io _ p' _ a2 c2 =>
            rw [a1] at a2
            cases a2
            exact .io a1 c2
    · rw [if_neg Bool.false_ne_true] at old ⊢
      rw [hd0] at hds
      cases hds
      cases old with
      | im r => exact .im (r.mono s)
  · obtain ⟨b, d, g1, g2, rfl⟩ := mkE_get e1
    obtain ⟨b', d', g1', g2', rfl⟩ := mkE_get e2
    have hj : i < ds.length := by
      have := (List.getElem?_eq_some_iff.mp g1).1
      omega
    have hj' : j < ds.length := by
      have := (List.getElem?_eq_some_iff.mp g1').1
      omega
    refine S0.inj i j p _ _ ne (mkE_at (k := 0) g1 (List.getElem?_eq_getElem hj)) (mkE_at (k := 0) g1' (List.getElem?_eq_getElem hj')) ?_ ?_ e3 e4
    · cases b with
      | true => rfl
      | false => cases m1
    · cases b' with
      | true => rfl
      | false => cases m2
/-- what is given back is the caller's own from there on -/
theorem give_back {sig : List Bool} {o : List D} {vs : List V} {B1 H1 : Hp} {d : D} {p : Addr} (S : SR K A B1 H1 (vs.map some) (mkE 0 sig o)) (ho : o.length = sig.length) (b : B1 p = none) (h0 : A.H0 p = none) (c : Cont K B1 d (H1 p)) :
    SR K A B1 H1 (vs.map some ++ [some (.ref p)]) (mkE 0 sig o ++ [.ow d]) := by
  have ln := S.len
  have no : ∀ (i : Nat) (sl : Sl), (mkE 0 sig o)[i]? = some sl → sl.mut = true → (vs.map some)[i]? ≠ some (some (V.ref p)) := fun i sl e m z => by
    obtain ⟨bb, d', g1, g2, rfl⟩ := mkE_get e
    cases bb with
    | false => cases m
    | true =>
      rw [if_pos rfl] at e
      cases S.slot i _ _ e z with
      | io a1 c1 =>
        obtain ⟨u, hu⟩ := S.ioh p ⟨_, a1⟩
        rw [h0] at hu
        cases hu
  refine ⟨by simp only [List.length_append, List.length_cons, List.length_nil] at ln ⊢; omega, S.same, fun i sl ov g1 g2 => ?_, fun i i' p' sl sl' ne g1 g2 m1 m2 g3 g4 => ?_, S.anc, S.iob, S.ioh⟩
  · rcases getE_snoc g1 with ⟨hi, g1⟩ | ⟨hi, rfl⟩
    · rw [List.getElem?_append_left (by rw [ln]; exact hi)] at g2
      exact S.slot i sl ov g1 g2
    · rw [hi, ← ln] at g2
      have : ov = some (.ref p) := by simpa using g2.symm
      subst this
      exact .ow b h0 c
  · rcases getE_snoc g1 with ⟨hi, g1⟩ | ⟨hi, rfl⟩
    · rw [List.getElem?_append_left (by rw [ln]; exact hi)] at g3
      rcases getE_snoc g2 with ⟨hi', g2⟩ | ⟨hi', rfl⟩
      · rw [List.getElem?_append_left (by rw [ln]; exact hi')] at g4
        exact S.inj i i' p' sl sl' ne g1 g2 m1 m2 g3 g4
      · rw [hi', ← ln] at g4
        have : V.ref p = V.ref p' := by simpa using g4
        cases this
        exact no i sl g1 m1 g3
    · rw [hi, ← ln] at g3
      have : V.ref p = V.ref p' := by simpa using g3
      cases this
      rcases getE_snoc g2 with ⟨hi', g2⟩ | ⟨hi', rfl⟩
      · rw [List.getElem?_append_left (by rw [ln]; exact hi')] at g4
        exact no i' sl' g2 m2 g4
      · exact ne (hi.trans hi'.symm)
theorem body_ok {sig : List Bool} {n : Nat} {body : SM} {t : TS} (hn : sig.length ≤ n) (hb : ∀ A, SSX K A t body) {N : List Str} (hN : N.length = n) {vs : List V} {H : Hp} {Q : VK} {E : XK} (h : spF K ⟨runF sig n body, sig⟩ vs H Q E) :
    t { nx := fun _ H' => Q .non H', rt := Q } (L2.start N vs) H := by
  obtain ⟨A, B, ds, ds', r, hA, hB, S, hd, hf, q⟩ := h
  have hf : runF sig n body ds = some (r, ds') := hf
  have hd : ds.length = sig.length := hd
  unfold runF at hf
  rw [if_pos hd] at hf
  have lv : vs.length = sig.length := by
    have := S.len
    rw [List.length_map] at this
    rw [this]
    exact mkE_length hd
  have S0 : SR K A B H (L2.start N vs) (mkE 0 sig ds ++ List.replicate (n - ds.length) .em) := by
    have e : L2.start N vs = vs.map some ++ List.replicate (n - ds.length) none := by
      unfold L2.start
      rw [hN, lv, hd]
    rw [e]
    exact S.ems _
  split at hf
  · rename_i e1 hbe
    split at hf
    · rename_i o ho
      cases hf
      refine hb A (L2.start N vs) B H _ e1 .nx _ S0 hbe fun σ1 B1 H1 s1 S1 => ?_
      obtain ⟨lo, S2⟩ := params_end S hd s1 S1 ho
      exact q B1 H1 .non s1 lo ⟨S2, .non⟩
    · cases hf
  · rename_i r0 e1 hbe
    split at hf
    · rename_i r' o hr ho
      cases hf
      refine hb A (L2.start N vs) B H _ e1 (.rt r0) _ S0 hbe fun σ1 B1 H1 v s1 hl1 hv => ?_
      have S1 : SR K A B1 H1 σ1 e1 := hv.drop.app_nil
      obtain ⟨lo, S2⟩ := params_end S hd s1 S1 ho
      have lo2 : ds'.length = sig.length := by omega
      cases r0 with
      | im d =>
        cases hr
        exact q B1 H1 v s1 lo ⟨S2, hv.2⟩
      | fr d =>
        cases hr
        have hv : SR K A B1 H1 (σ1 ++ [] ++ [some v]) (e1 ++ [] ++ [.ow d]) := hv
        rw [List.append_nil, List.append_nil] at hv
        have g1 : (e1 ++ [Sl.ow d])[e1.length]? = some (.ow d) := by simp
        have g2 : (σ1 ++ [some v])[e1.length]? = some (some v) := by
          rw [← hl1]
          simp
        cases hv.slot _ _ _ g1 g2 with
        | ow b h0 c => exact q B1 H1 _ s1 lo (give_back S2 lo2 b h0 c)
      | bo i =>
        obtain ⟨_, hi⟩ := hv
        unfold retV at hr
        dsimp only at hr
        split at hr
        · rename_i d he
          cases hr
          cases S1.slot _ _ _ he hi with
          | ow b h0 c => exact q B1 H1 _ s1 lo (give_back S2 lo2 b h0 c)
        · rename_i d he
          cases hr
          cases S1.slot _ _ _ he hi with
          | im r => exact q B1 H1 v s1 lo ⟨S2, r⟩
        · cases hr
    · cases hf
  · cases hf
end

/-- where a def of the text stands -/
structure DefAt (g : G0) (x : Str) (st : Stmt) (ps : List Str) : Prop where
  ex : ∃ (f : Addr) (fd : FuncData), g.mg x = some (.ref f) ∧ Fun g.K x x st f fd ∧ Binds g.K fd ps []
theorem fn_none {g : G0} {x : Str} {st : Stmt} {ps : List Str} (D : DefAt g x st ps) (k : Nat) (sig : List Bool) : FnI g x k ⟨fun _ => none, sig⟩ := by
  obtain ⟨f, fd, h1, h2, h3⟩ := D.ex
  have no : ∀ {vs : List V} {H : Hp} {Q : VK} {E : XK}, ¬ spF g.K ⟨fun _ => none, sig⟩ vs H Q E := fun ⟨_, _, _, _, _, _, _, _, _, h, _⟩ => nomatch h
  exact ⟨f, fd, ps, h1, h2.kp, h3, ⟨fun vs H Q h => (no h).elim, fun A outer s H args us vs Q _ _ _ _ _ h => (no h).elim⟩⟩
theorem fn_at {g : G0} {x : Str} {st : Stmt} {f : Addr} {fd : FuncData} {N ps : List Str} {sig : List Bool} {body : SM} {k : Nat} (h2 : Fun g.K x x st f fd) (S : FnScope N ps (defScope st)) (hs : sig.length = ps.length) (hb : ESs g ⟨N, defScope st, fun _ => true, k⟩ (defBody st) body) :
    FnG g (k + 1) f fd ps (spF g.K ⟨runF sig N.length body, sig⟩) := by
  obtain ⟨oc, od, kV, doc, pm, an, cdv, ct, osl, rfl, lk, hcd⟩ := h2.ex
  have len : ∀ vs H Q, spF g.K ⟨runF sig N.length body, sig⟩ vs H Q E0 → vs.length = ps.length := fun vs H Q ⟨A, B, ds, ds', r, _, _, S', hd, _⟩ => by
    have := S'.len
    have hd : ds.length = sig.length := hd
    rw [List.length_map] at this
    rw [this, ← hs]
    exact mkE_length hd
  have hpl : ps.length ≤ N.length := by
    have := congrArg List.length S.pre
    rw [List.length_take] at this
    omega
  obtain ⟨t, ht, hq⟩ := hb
  refine ⟨len, fun A outer s H args us vs Q hr hgu e0 hbd r hsp => ?_⟩
  have hl := len _ _ _ hsp
  have KX : g.K.In s.heap := e0.mod.kin.keeps fun b o e => (e0.bs b o e).1
  have lim : s.heap.NoLimit := e0.mod.nolimit.keeps fun b o e => (e0.bs b o e).1
  have hkind : ∀ y ∈ ps.zip us, (defScope st).names.lookup y.1 = some .local ∨ ((defScope st).names.lookup y.1 = some .cell ∧ ((cellsFrom (s.heap.objs.size + 1) (defScope st).names []).lookup y.1).isSome = true) := fun ⟨n, v⟩ hy => by
    rcases S.par n (List.of_mem_zip hy).1 with q | q
    · exact .inl q
    · exact .inr ⟨q, PySem.W.cellsFrom_some _ _ _ (.inl q)⟩
  refine codeAny_call_function hr.depth (KX _ _ lk) rfl S.co S.gen rfl (PySem.W.codeRec_of KX hcd) (hbd _ _ _ _ ?_)
  refine wpAny_newFunctionEnv_cells S.kind hkind fun env he s1 x1 => ?_
  subst he
  refine ⟨lim.keeps x1.toInCall.keep, codeAny_func ?_⟩
  have I : Inv (cxOf CX0 g.P g.w g.K g.mg g.base N x (defScope st) f cdv A outer s H E0) [] (L2.start N vs) H s1 := inv_start S hr.hd e0 hl r x1
  have cok : Cok g ⟨N, defScope st, fun _ => true, k⟩ (cxOf CX0 g.P g.w g.K g.mg g.base N x (defScope st) f cdv A outer s H E0).nox :=
    ⟨rfl, rfl, rfl, rfl, rfl, rfl, rfl, rfl, S.nd, fun _ _ => rfl, hr.deeper _, hgu, rfl⟩
  have hq2 := body_ok (n := N.length) (by omega) hq rfl hsp
  refine wpAny_mono ((ht _ cok).nox.run [] s1 (L2.start N vs) H _ I hq2) (fun fl s' hs' => ?_) fun e s' hs' => hs'
  have fin : ∀ {σ' : L2.St} {H' : Hp} {v : V} {u : Value}, Inv (cxOf CX0 g.P g.w g.K g.mg g.base N x (defScope st) f cdv A outer s H E0) [] σ' H' s' → RelV v u → Q v H' → CE outer g.P g.w H s Q u s' :=
    fun {σ' H' v u} J rv q => ⟨v, H', J.os, J.bare, J.base, J.hok, rv, q⟩
  cases fl with
  | ret u =>
    obtain ⟨v, σ', H', J, rv, q⟩ := hs'
    exact fin J rv q
  | next =>
    obtain ⟨σ', H', J, q⟩ := hs'
    exact fin (v := V.non) (u := Value.none) J rfl q
  | brk =>
    obtain ⟨_, _, _, q⟩ := hs'
    exact False.elim q
  | cont =>
    obtain ⟨_, _, _, q⟩ := hs'
    exact False.elim q
theorem fn_rule {g : G0} {x : Str} {st : Stmt} {N ps : List Str} {sig : List Bool} {body : SM} {k : Nat} (D : DefAt g x st ps) (S : FnScope N ps (defScope st)) (hs : sig.length = ps.length) (hb : ESs g ⟨N, defScope st, fun _ => true, k⟩ (defBody st) body) :
    FnI g x (k + 1) ⟨runF sig N.length body, sig⟩ := by
  obtain ⟨f, fd, h1, h2, h3⟩ := D.ex
  exact ⟨f, fd, ps, h1, h2.kp, h3, fn_at h2 S hs hb⟩
end PD
namespace PD
open PySem PySem.Spec PyProof.Rows L2

/-- the law's call, behind the top: the script is the one thing that is tracked -/
theorem top_call {P : Program} {w : World} {K : PySem.W.Frag} {mg mb : Str → Option Value} {k : Nat} {fa a : Addr} {fd : FuncData} {x : Str} {sp : Sp} {s1 : Shared} {vs : List Value} {ns : List Int}
    (KX : K.In s1.heap) (hns : s1.heap.Ns mainGlobals mg) (hb : s1.heap.Ns builtinsNs mb) (hbb : ∀ x : Str, x ≠ "__name__" → mb x = bootBuiltins x) (hlim : s1.heap.NoLimit) (hg : s1.gens = #[])
    (ha : s1.heap.get? a = some { cls := .type "list", data := .seq vs.toArray }) (hi : IntsAre vs ns) (hl : ns.length ≤ sizeLine) (hr : Room k callerA)
    (F : ∀ base : Heap, K.In base → base.Ns mainGlobals mg → FnG ⟨P, w, K, mg, base⟩ k fa fd [x] sp) (hbind : ∀ (s : Shared) (u : Value), BindsTo s fd ⟨[u], []⟩ [(x, u)])
    (hsp : ∀ H : Hp, SqL K H a (ns.map V.int) → sp [.ref a] H (fun v _ => v = .bl true) E0) :
    codeAny (model P w) callerA (.call (.ref fa) ⟨[.ref a], []⟩) (fun r s' => r = .ok (.ret (.bool true)) ∧ OldK s1.heap s'.heap ∧ s'.os = s1.os ∧ AllBare s'.gens) s1 := by
  have rv := vals_ints hi
  have lv := hi.length
  have go : ∀ H : Hp, Only H → SqL K H a (ns.map V.int) → HOk P w H s1.heap → (∀ b, H b ≠ none → b = a) → (H a ≠ none → K.lookup a = none) →
      codeAny (model P w) callerA (.call (.ref fa) ⟨[.ref a], []⟩) (fun r s' => r = .ok (.ret (.bool true)) ∧ OldK s1.heap s'.heap ∧ s'.os = s1.os ∧ AllBare s'.gens) s1 := fun H hO hS hok hA hK => by
    have nd : ∀ {b : Addr} {o : Obj} {es : Array DictEntry} {ep : Nat}, s1.heap.get? b = some o → o.data = .dict es ep → H b = none := fun {b o es ep} e d => by
      by_cases q : H b = none
      · exact q
      · have e' := hA b q
        subst e'
        rw [ha] at e
        cases e
        cases d
    have nsK : ∀ {b : Addr} {m : Str → Option Value}, s1.heap.Ns b m → (hidT s1.heap H).Ns b m := fun ⟨o, es, ep, e, d, r⟩ => ⟨o, es, ep, hidT_get e (nd e d), d, r⟩
    have kb : K.In (hidT s1.heap H) := fun b o e => hidT_get (KX b o e) (by
      by_cases q : H b = none
      · exact q
      · have e' := hA b q
        subst e'
        rw [hK q] at e
        cases e)
    have md : Mod K mg (hidT s1.heap H) := ⟨kb, nsK hns, ⟨mb, nsK hb, hbb⟩, by
      obtain ⟨mc, h1, h2⟩ := hlim
      exact ⟨mc, nsK h1, h2⟩⟩
    have en : Env0 P w K mg (hidT s1.heap H) callerA [] s1 H := ⟨rfl, md, fun b o e => of_hidT e, Nat.le_of_eq (hidT_size _ _), trivial, fun b hb => absurd (show b ∈ ([] : List Addr) from hb) (by simp), hok, .of_eq hg⟩
    have run := (F _ kb (nsK hns)).run callerA [] s1 H ⟨[.ref a], []⟩ [.ref a] [.ref a] (fun v _ => v = .bl true) hr rfl en (hbind s1 (.ref a)) (.cons rfl .nil) (hsp H hS)
    refine codeAny_mono run fun r s' h => ?_
    match r, h with
    | .ok (.ret u), h =>
      obtain ⟨v, H', os, bare, un, hok', r', q⟩ := h
      obtain rfl : v = .bl true := q
      obtain rfl : u = Value.bool true := r'
      refine ⟨rfl, OldK.of_keep fun b o e => ?_, os, bare⟩
      cases q : H b with
      | none => exact un.keep b o e q (fun z => absurd (show b ∈ ([] : List Addr) from z) (by simp)) (by simp)
      | some u =>
        rcases hO b with z | ⟨ob, xs, z⟩
        · rw [q] at z
          cases z
        · obtain ⟨e1, _⟩ := hok b _ z
          obtain ⟨e2, _⟩ := hok' b _ (un.frzs b ob _ z)
          rw [e] at e1
          cases e1
          exact e2
    | .ok .next, h => exact h.elim
    | .ok .brk, h => exact h.elim
    | .ok .cont, h => exact h.elim
    | .error e, h => exact h.elim
  cases hk : K.lookup a with
  | some o =>
    have e := KX a o hk
    rw [ha] at e
    cases e
    have no : ∀ (b : Addr) (u : HO), (fun _ => none : Hp) b = some u → False := fun b u z => by cases z
    exact go (fun _ => none) (fun _ => .inl rfl) (.inr ⟨_, vs.toArray, _, hk, rfl, rfl, rfl, by rw [List.size_toArray, lv]; exact hl, by simpa using rv⟩) (fun b u z => (no b u z).elim) (fun b z => absurd rfl z) fun z => absurd rfl z
  | none =>
    let Hs : Hp := fun b => if b = a then some (.frz { cls := .type "list", data := .seq vs.toArray } (.lst (ns.map V.int))) else none
    have at_a : Hs a = some (.frz { cls := .type "list", data := .seq vs.toArray } (.lst (ns.map V.int))) := if_pos rfl
    have off : ∀ b, b ≠ a → Hs b = none := fun b h => if_neg h
    refine go Hs (fun b => ?_) (.inl (.inr ⟨_, at_a⟩)) (fun b u z => ?_) (fun b z => ?_) fun _ => hk
    · by_cases hb : b = a
      · exact .inr ⟨_, _, hb ▸ at_a⟩
      · exact .inl (off b hb)
    · by_cases hb : b = a
      · subst hb
        rw [at_a] at z
        cases z
        exact ⟨ha, by rw [List.length_map]; exact hl, vs, _, rv, ha⟩
      · rw [off b hb] at z
        cases z
    · by_cases hb : b = a
      · exact hb
      · exact absurd (off b hb) z

/-- the law is kept, if its mirror tells True of every script -/
theorem top_walk {l : PySem.W.OpenLaw} {n k : Nat} {q : Program} {loose : List Str} {XP : (Str → Option Value) → Heap → Prop} {YP : World → Heap → Prop} {d : DefRec} {K : Params → PySem.W.Frag} {x : Str} {F : Fs}
    (hn : l.most = some n) (hn2 : n ≤ sizeLine) (hdf : d.params.defaults = []) (hr : Room k callerA) (hY : ∀ (w : World) (h : Heap), YP w h → (K w.params).In h)
    (hF : ∀ (w : World) (mg : Str → Option Value) (fa : Addr) (h : Heap), (K w.params).In h → h.Ns mainGlobals mg → mg d.name = some (.ref fa) →
      ∃ fd : FuncData, (∀ (s : Shared) (u : Value), BindsTo s fd ⟨[u], []⟩ [(x, u)]) ∧ ∀ base : Heap, (K w.params).In base → base.Ns mainGlobals mg → FnG ⟨l.prog, w, K w.params, mg, base⟩ k fa fd [x] (spF (K w.params) F))
    (hsig : F.sig = [false]) (hsem : ∀ ns : List Int, ns.length ≤ n → ∃ o, F.sem [.sc ns] = some (.im (.bl true), o)) :
    PySem.W.WalkO q loose XP YP l.row.toRowW d [] (fun f vs => PySem.call f vs) := by
  refine Att.attach_call hn hdf fun w s₀ s1 mg mb fa o pm cd doc a vs ns G Y ho hd hcd hmg hobj hints hlen hg => ?_
  obtain ⟨fd, hb, hG⟩ := hF w mg fa _ (hY w _ Y) G.T.g hmg
  refine top_call (hY w _ Y) G.T.g G.T.b G.T.builtins G.T.nolimit hg hobj hints (Nat.le_trans hlen hn2) hr hG hb fun H hS => ?_
  obtain ⟨o, ho⟩ := hsem ns hlen
  have S : SR (K w.params) ⟨H, H, fun _ => none⟩ H H ([V.ref a].map some) (mkE 0 F.sig [.sc ns]) := by
    rw [hsig]
    refine ⟨rfl, Same.refl _, fun i sl ov e1 e2 => ?_, fun i j p sl sl' ne e1 e2 m1 m2 e3 e4 => ?_, fun _ _ e _ => ⟨e, rfl⟩, fun b ⟨j, h⟩ => (by cases h), fun b ⟨j, h⟩ => (by cases h)⟩
    · cases i with
      | zero =>
        cases e1
        cases e2
        exact .im (.sc hS)
      | succ i => cases e1
    · cases i with
      | zero =>
        cases e1
        cases m1
      | succ i => cases e1
  refine ⟨_, H, [.sc ns], o, .im (.bl true), rfl, rfl, S, by rw [hsig]; rfl, ho, fun B' H' v _ _ h => ?_⟩
  obtain ⟨_, r⟩ := h
  cases r
  rfl
end PD
namespace PD
open PySem PySem.Spec PyProof.Rows L2

section
variable {α β : Type} {R : α → β → Prop}
theorem pr1 {a : α} {ys : List β} (h : Paired R [a] ys) : ∃ y, ys = [y] ∧ R a y := by
  cases h with
  | cons h t =>
    cases t
    exact ⟨_, rfl, h⟩
theorem pr2 {a b : α} {ys : List β} (h : Paired R [a, b] ys) : ∃ y z, ys = [y, z] ∧ R a y ∧ R b z := by
  cases h with
  | cons h t =>
    obtain ⟨z, rfl, h2⟩ := pr1 t
    exact ⟨_, _, rfl, h, h2⟩
theorem pr3 {a b c : α} {ys : List β} (h : Paired R [a, b, c] ys) : ∃ y z w, ys = [y, z, w] ∧ R a y ∧ R b z ∧ R c w := by
  cases h with
  | cons h t =>
    obtain ⟨z, w, rfl, h2, h3⟩ := pr2 t
    exact ⟨_, _, _, rfl, h, h2, h3⟩
end
section
variable {K : PySem.W.Frag} {A : Anc} {B H : Hp} {vs : L2.St} {env : Env}
/-- an answer that is no new thing -/
theorem VRp.im (S : SR K A B H vs env) {d : D} {v : V} (r : Rp K B d v) : VRp K A B H vs env (.im d) v := ⟨S, r⟩
theorem VRp.tup (S : SR K A B H vs env) {p : Addr} {xs : List V} {ds : List D} (hp : H p = none) (r : Rps K B ds xs) : ∃ B', Same B B' ∧ VRp K A B' (upd H p (.tup xs)) vs env (.im (.tup ds)) (.ref p) := by
  obtain ⟨S', s'⟩ := S.laidF (o := .tup xs) hp
  exact ⟨_, s', S', .tup upd_same (r.mono s')⟩
theorem VRp.lst (S : SR K A B H vs env) {p : Addr} {xs : List V} {ds : List D} (hp : H p = none) (r : Rps K B ds xs) : VRp K A B (upd H p (.lst xs)) vs env (.fr (.lst ds)) (.ref p) := S.push hp (.lst r)
end
theorem ok_app {x y : Str} (h : PyData.strOk x = true) (h' : PyData.strOk y = true) : PyData.strOk (x ++ y) = true := by
  show (x.cps ++ y.cps).all (· < 0x110000) = true
  rw [Array.all_append]
  exact Bool.and_eq_true_iff.mpr ⟨h, h'⟩
theorem ok_mem {x : Str} : PyData.strOk x = true ↔ ∀ c ∈ x.cps.toList, c < 0x110000 := by
  show x.cps.all (· < 0x110000) = true ↔ _
  rw [← Array.all_toList, List.all_eq_true]
  simp
theorem ok_sub {x : Str} {l : List Nat} (h : PyData.strOk x = true) (hl : ∀ c ∈ l, c ∈ x.cps.toList) : PyData.strOk ⟨l.toArray⟩ = true := ok_mem.mpr fun c hc => ok_mem.mp h c (hl c (by simpa using hc))

/-! ### + - * // % ** -/
def addD : List D → Option Vl
  | [.int i, .int j] => some (.im (.int (i + j)))
  | [.str x, .str y] => if small (x.length + y.length) = true then some (.im (.str (x ++ y))) else none
  | [.lst xs, .lst ys] => if small (xs.length + ys.length) = true then some (.fr (.lst (xs ++ ys))) else none
  | [.tup xs, .tup ys] => if (small (xs.length + ys.length) && !xs.isEmpty) = true then some (.im (.tup (xs ++ ys))) else none
  | _ => none
theorem op_addD {g : G0} : OpI g (binaryOp .Add) addD := by
  refine ⟨fun x y H Q => ((rI0 fun i j => .int (i + j)) x y H Q ∨ (∃ i j, x = .str i ∧ y = .str j ∧ i.length + j.length ≤ sizeLine ∧ Q (.str (i ++ j)) H)) ∨ (rCat x y H Q ∨ rCatT g.K x y H Q),
    fun c X hX => (op_add.or op_add_str).or (op_cat.or (by rw [← hX.eK]; exact op_catT)), fun A B H vs env xs ds res Q S rr e q => ?_⟩
  unfold addD at e
  split at e
  · cases e
    obtain ⟨x, y, rfl, r1, r2⟩ := pr2 rr
    exact .inl (.inl ⟨_, _, r1.int, r2.int, q B H _ (Same.refl _) (.im S (.int _))⟩)
  · split at e
    · rename_i hs
      cases e
      obtain ⟨x, y, rfl, r1, r2⟩ := pr2 rr
      obtain ⟨e1, o1⟩ := r1.str
      obtain ⟨e2, o2⟩ := r2.str
      exact .inl (.inr ⟨_, _, e1, e2, of_decide_eq_true hs, q B H _ (Same.refl _) (.im S (.str _ (ok_app o1 o2)))⟩)
    · cases e
  · split at e
    · rename_i hs
      cases e
      obtain ⟨x, y, rfl, r1, r2⟩ := pr2 rr
      obtain ⟨a, us, rfl, ha, ra⟩ := r1.lst S.same
      obtain ⟨b, ws, rfl, hb, rb⟩ := r2.lst S.same
      exact .inr (.inl ⟨_, _, _, _, rfl, rfl, ha, hb, by rw [← ra.length, ← rb.length]; exact of_decide_eq_true hs, fun p hp => q B _ _ (Same.refl _) (.lst S hp (ra.app rb))⟩)
    · cases e
  · split at e
    · rename_i ts us hs
      cases e
      have hs := Bool.and_eq_true_iff.mp hs
      obtain ⟨x, y, rfl, r1, r2⟩ := pr2 rr
      obtain ⟨a, us, rfl, ha, ta, ra⟩ := r1.tup S.same
      obtain ⟨b, ws, rfl, hb, tb, rb⟩ := r2.tup S.same
      have ne : us ≠ [] := fun z => by
        subst z
        cases ra
        exact absurd hs.2 (by simp)
      refine .inr (.inr ⟨a, b, us, ws, rfl, rfl, .of ha, .of hb, ne, by rw [← ra.length, ← rb.length]; exact of_decide_eq_true hs.1, fun z => ?_, fun z p hp => ?_⟩)
      · subst z
        cases rb
        rw [List.append_nil] at q
        exact q B H _ (Same.refl _) (.im S (.tup ta ra))
      · obtain ⟨B', s', v'⟩ := VRp.tup S hp (ra.app rb)
        exact q B' _ _ s' v'
    · cases e
  · cases e
def subD : List D → Option Vl
  | [.int i, .int j] => some (.im (.int (i - j)))
  | _ => none
theorem op_subD {g : G0} : OpI g (binaryOp .Sub) subD := by
  refine ⟨_, fun c X hX => op_sub, fun A B H vs env xs ds res Q S rr e q => ?_⟩
  unfold subD at e
  split at e
  · cases e
    obtain ⟨x, y, rfl, r1, r2⟩ := pr2 rr
    exact ⟨_, _, r1.int, r2.int, q B H _ (Same.refl _) (.im S (.int _))⟩
  · cases e
def s64 (i : Int) : Bool := decide (-(2 ^ 64) < i) && decide (i < 2 ^ 64)
theorem s64_ok {i : Int} (h : s64 i = true) : -(2 ^ 64) < i ∧ i < 2 ^ 64 := by
  have h := Bool.and_eq_true_iff.mp h
  exact ⟨of_decide_eq_true h.1, of_decide_eq_true h.2⟩
def in63 (k : Int) : Bool := decide (-(2 ^ 63) ≤ k) && decide (k < 2 ^ 63)
theorem in63_ok {i : Int} (h : in63 i = true) : -(2 ^ 63) ≤ i ∧ i < 2 ^ 63 := by
  have h := Bool.and_eq_true_iff.mp h
  exact ⟨of_decide_eq_true h.1, of_decide_eq_true h.2⟩
/-- a text k times -/
def timesS (x : Str) (k : Nat) : Str := ⟨((List.replicate k x.cps.toList).flatten).toArray⟩
def mulD : List D → Option Vl
  | [.int i, .int j] => if (s64 i || s64 j) = true then some (.im (.int (i * j))) else none
  | [.str x, .int k] => if (decide (1 < k) && decide (k < 1000) && small (x.length * 1000)) = true then some (.im (.str (timesS x k.toNat))) else none
  | [.lst xs, .int k] => if (in63 k && small (xs.length * k.toNat)) = true then some (.fr (.lst (List.replicate k.toNat xs).flatten)) else none
  | [.tup xs, .int k] => if (!xs.isEmpty && decide (2 ≤ k) && decide (k ≤ 1000) && decide (xs.length ≤ 1000)) = true then some (.im (.tup (List.replicate k.toNat xs).flatten)) else none
  | _ => none
theorem rep_fold : ∀ (k : Nat) (a acc : Array Nat), (List.replicate k a).foldl (· ++ ·) acc = acc ++ ((List.replicate k a.toList).flatten).toArray
  | 0, a, acc => by simp
  | k + 1, a, acc => by
    rw [List.replicate_succ, List.replicate_succ, List.foldl_cons, rep_fold k a, List.flatten_cons]
    rw [Array.append_assoc]
    congr 1
    apply Array.ext'
    simp
def rRepS : R2 := fun x y H Q => ∃ z k, x = .str z ∧ y = .int k ∧ 1 < k ∧ k < 1000 ∧ z.length * 1000 ≤ sizeLine ∧ Q (.str (timesS z k.toNat)) H
theorem op_repS {X : Cx} : OpR X (binaryOp .Mult) rRepS := by
  intro pins s σ H x y v u Q I rx ry h
  obtain ⟨z, k, rfl, rfl, h1, h2, hz, q⟩ := h
  obtain ⟨t, rfl⟩ := rx
  obtain ⟨t', rfl⟩ := ry
  have zl : z.length * k.toNat ≤ sizeLine := Nat.le_trans (Nat.mul_le_mul_left _ (by omega)) hz
  have e0 : timesS z k.toNat = ⟨(List.replicate k.toNat z.cps).foldl (· ++ ·) #[]⟩ := by
    rw [rep_fold]
    simp [timesS]
  have fits : (timesS z k.toNat).length ≤ sizeLine := by
    have : (timesS z k.toNat).length = k.toNat * z.length := by
      show ((List.replicate k.toNat z.cps.toList).flatten).toArray.size = _
      simp [Str.length]
    rw [this, Nat.mul_comm]
    exact zl
  refine PySem.P.mul_str (by rw [Bool.or_eq_false_iff]; exact ⟨decide_eq_false (by omega), decide_eq_false (by omega)⟩) (fun _ _ => ?_) (fun _ _ => ?_) ?_
  · have h9 : sizeLine = 16777216 := rfl
    have h3 : (1000 : Int) ≤ 9223372036854775807 / 1000 := by decide
    have h5 : (2 : Int) ^ 63 - 1 = 9223372036854775807 := by decide
    rw [h5]
    have h6 : (z.length : Int) ≤ 16777 := by omega
    have h7 : (16777 : Int) ≤ 9223372036854775807 / k := by
      rw [Int.le_ediv_iff_mul_le (by omega)]
      have : (16777 : Int) * k ≤ 16777 * 1000 := Int.mul_le_mul_of_nonneg_left (by omega) (by decide)
      omega
    omega
  · exact decide_eq_false (by omega)
  · rw [if_neg (by omega)]
    split
    · rename_i hc
      rcases Bool.or_eq_true_iff.mp hc with hc | hc
      · have : k = 1 := by simpa using hc
        omega
      · have hz0 : z.length = 0 := by simpa using hc
        have : timesS z k.toNat = z := by
          have : z = ⟨#[]⟩ := by
            obtain ⟨c⟩ := z
            have : c = #[] := by simpa [Str.length] using hz0
            rw [this]
          rw [this]
          simp [timesS]
        rw [this] at q
        exact ⟨.str z, H, I, ⟨_, rfl⟩, q⟩
    · rw [← e0]
      exact ⟨fits, ⟨.str _, H, I.tok _, ⟨_, rfl⟩, q⟩⟩
theorem ok_times {x : Str} {k : Nat} (h : PyData.strOk x = true) : PyData.strOk (timesS x k) = true := ok_sub h fun c hc => by
  obtain ⟨l, h1, h2⟩ := List.mem_flatten.mp hc
  rw [(List.mem_replicate.mp h1).2] at h2
  exact h2
theorem op_mulD {g : G0} : OpI g (binaryOp .Mult) mulD := by
  refine ⟨fun x y H Q => ((rI CMul fun i j => .int (i * j)) x y H Q ∨ rRepS x y H Q) ∨ (rRep x y H Q ∨ rRepT g.K x y H Q),
    fun c X hX => (op_mul.or op_repS).or (op_rep.or (by rw [← hX.eK]; exact op_repT)), fun A B H vs env xs ds res Q S rr e q => ?_⟩
  unfold mulD at e
  split at e
  · split at e
    · rename_i hs
      cases e
      obtain ⟨x, y, rfl, r1, r2⟩ := pr2 rr
      have hs := Bool.or_eq_true_iff.mp hs
      exact .inl (.inl ⟨_, _, r1.int, r2.int, hs.elim (fun z => .inl (s64_ok z)) (fun z => .inr (s64_ok z)), q B H _ (Same.refl _) (.im S (.int _))⟩)
    · cases e
  · split at e
    · rename_i hs
      cases e
      obtain ⟨x, y, rfl, r1, r2⟩ := pr2 rr
      simp only [Bool.and_eq_true, decide_eq_true_eq] at hs
      obtain ⟨e1, o1⟩ := r1.str
      exact .inl (.inr ⟨_, _, e1, r2.int, hs.1.1, hs.1.2, of_decide_eq_true hs.2, q B H _ (Same.refl _) (.im S (.str _ (ok_times o1)))⟩)
    · cases e
  · split at e
    · rename_i hs
      cases e
      obtain ⟨x, y, rfl, r1, r2⟩ := pr2 rr
      have hs := Bool.and_eq_true_iff.mp hs
      obtain ⟨a, us, rfl, ha, ra⟩ := r1.lst S.same
      obtain ⟨g1, g2⟩ := in63_ok hs.1
      exact .inr (.inl ⟨_, _, _, rfl, r2.int, ha, g1, g2, by rw [← ra.length]; exact of_decide_eq_true hs.2, fun p hp => q B _ _ (Same.refl _) (.lst S hp (ra.repl _))⟩)
    · cases e
  · split at e
    · rename_i hs
      cases e
      obtain ⟨x, y, rfl, r1, r2⟩ := pr2 rr
      simp only [Bool.and_eq_true, decide_eq_true_eq] at hs
      obtain ⟨a, us, rfl, ha, ta, ra⟩ := r1.tup S.same
      have ne : us ≠ [] := fun z => by
        subst z
        cases ra
        exact absurd hs.1.1.1 (by simp)
      refine .inr (.inr ⟨a, _, us, rfl, r2.int, .of ha, ne, hs.1.1.2, hs.1.2, by rw [← ra.length]; exact hs.2, fun p hp => ?_⟩)
      obtain ⟨B', s', v'⟩ := VRp.tup S hp (ra.repl _)
      exact q B' _ _ s' v'
    · cases e
  · cases e
def divD : List D → Option Vl
  | [.int i, .int j] => if (decide (j ≠ 0) && decide (j.natAbs < 1073741824)) = true then some (.im (.int (i.fdiv j))) else none
  | _ => none
theorem op_divD {g : G0} : OpI g (binaryOp .FloorDiv) divD := by
  refine ⟨_, fun c X hX => op_fdivN, fun A B H vs env xs ds res Q S rr e q => ?_⟩
  unfold divD at e
  split at e
  · split at e
    · rename_i hs
      cases e
      obtain ⟨x, y, rfl, r1, r2⟩ := pr2 rr
      have hs := Bool.and_eq_true_iff.mp hs
      exact ⟨_, _, r1.int, r2.int, ⟨of_decide_eq_true hs.1, of_decide_eq_true hs.2⟩, q B H _ (Same.refl _) (.im S (.int _))⟩
    · cases e
  · cases e
def modD : List D → Option Vl
  | [.int i, .int j] => if decide (j ≠ 0) = true then some (.im (.int (i.fmod j))) else none
  | _ => none
theorem op_modD {g : G0} : OpI g (binaryOp .Mod) modD := by
  refine ⟨_, fun c X hX => op_modN, fun A B H vs env xs ds res Q S rr e q => ?_⟩
  unfold modD at e
  split at e
  · split at e
    · rename_i hs
      cases e
      obtain ⟨x, y, rfl, r1, r2⟩ := pr2 rr
      exact ⟨_, _, r1.int, r2.int, of_decide_eq_true hs, q B H _ (Same.refl _) (.im S (.int _))⟩
    · cases e
  · cases e
def powD : List D → Option Vl
  | [.int i, .int j] => if (decide (0 ≤ j) && decide (j ≤ 1000000) && decide (i.natAbs < 2 ^ 64)) = true then some (.im (.int (i ^ j.toNat))) else none
  | _ => none
theorem op_powD {g : G0} : OpI g (binaryOp .Pow) powD := by
  refine ⟨_, fun c X hX => op_pow, fun A B H vs env xs ds res Q S rr e q => ?_⟩
  unfold powD at e
  split at e
  · split at e
    · rename_i hs
      cases e
      obtain ⟨x, y, rfl, r1, r2⟩ := pr2 rr
      simp only [Bool.and_eq_true, decide_eq_true_eq] at hs
      exact ⟨_, _, r1.int, r2.int, ⟨hs.1.1, hs.1.2, hs.2⟩, q B H _ (Same.refl _) (.im S (.int _))⟩
    · cases e
  · cases e
def negD : List D → Option Vl
  | [.int i] => some (.im (.int (-i)))
  | _ => none
theorem un_negD {g : G0} : UnI g (unaryOp .USub) negD := by
  refine ⟨_, fun c X hX => un_neg, fun A B H vs env xs ds res Q S rr e q => ?_⟩
  unfold negD at e
  split at e
  · cases e
    obtain ⟨x, rfl, r1⟩ := pr1 rr
    exact ⟨_, r1.int, q B H _ (Same.refl _) (.im S (.int _))⟩
  · cases e
end PD
namespace PD
open PySem PySem.Spec PyProof.Rows L2

/-! ### data that == looks at -/
mutual
def D.py : D → PyData
  | .non => .none
  | .bl b => .bool b
  | .int i => .int i
  | .str x => .str x
  | .tup ds => .tuple (pys ds)
  | .lst ds => .list (pys ds)
  | .dk _ => .none
  | .dt _ => .none
  | .sc _ => .none
  | .ty _ => .none
  | .txt _ => .none
def pys : List D → List PyData
  | [] => []
  | d :: ds => d.py :: pys ds
end
mutual
def D.isPy : D → Bool
  | .non => true
  | .bl _ => true
  | .int _ => true
  | .str _ => true
  | .tup ds => arePy ds
  | .lst ds => arePy ds
  | .dk _ => false
  | .dt _ => false
  | .sc _ => false
  | .ty _ => false
  | .txt _ => false
def arePy : List D → Bool
  | [] => true
  | d :: ds => d.isPy && arePy ds
end
theorem pys_map : ∀ ds : List D, pys ds = ds.map D.py
  | [] => rfl
  | d :: ds => by
    show d.py :: pys ds = _
    rw [pys_map ds]
    rfl
theorem arePy_all : ∀ ds : List D, arePy ds = ds.all D.isPy
  | [] => rfl
  | d :: ds => by
    show (d.isPy && arePy ds) = _
    rw [arePy_all ds]
    rfl
section
variable {K : PySem.W.Frag} {B H : Hp}
mutual
theorem Rp.dp (s : Same B H) : ∀ {d : D} {v : V}, d.isPy = true → Rp K B d v → Dp K H v d.py
  | _, _, _, .non => by simp only [D.py]; exact .non
  | _, _, _, .bl b => by simp only [D.py]; exact .bl b
  | _, _, _, .int i => by simp only [D.py]; exact .int i
  | _, _, _, .str x h => by simp only [D.py]; exact .str x
  | _, _, n, .tup h r => by
    simp only [D.py]
    exact .tup (h.same s).sq (Rps.dp s (by simpa [D.isPy] using n) r)
  | _, _, n, .lst h r => by
    simp only [D.py]
    exact .lst (.of (s _ _ h)) (Rps.dp s (by simpa [D.isPy] using n) r)
  | _, _, n, .dk _ _ _ => by simp [D.isPy] at n
  | _, _, n, .dt _ _ _ => by simp [D.isPy] at n
  | _, _, n, .sc _ => by simp [D.isPy] at n
  | _, _, n, .ty _ => by simp [D.isPy] at n
  | _, _, n, .txt _ => by simp [D.isPy] at n
theorem Rps.dp (s : Same B H) : ∀ {ds : List D} {vs : List V}, arePy ds = true → Rps K B ds vs → DpAll K H vs (pys ds)
  | _, _, _, .nil => by simp only [pys]; exact .nil
  | d :: ds, _, n, .cons h r => by
    have n : d.isPy = true ∧ arePy ds = true := by simpa [arePy] using n
    simp only [pys]
    exact .cons (Rp.dp s n.1 h) (Rps.dp s n.2 r)
end
mutual
theorem Rp.lay : ∀ {d : D} {v : V}, Rp K B d v → d.py.canLay0 = true
  | _, _, .non => by simp [D.py, PyData.canLay0]
  | _, _, .bl b => by simp [D.py, PyData.canLay0]
  | _, _, .int i => by simp [D.py, PyData.canLay0]
  | _, _, .str x h => by simpa [D.py, PyData.canLay0] using h
  | _, _, .tup h r => by simpa [D.py, PyData.canLay0] using Rps.lay r
  | _, _, .lst h r => by simpa [D.py, PyData.canLay0] using Rps.lay r
  | _, _, .dk _ _ _ => by simp [D.py, PyData.canLay0]
  | _, _, .dt _ _ _ => by simp [D.py, PyData.canLay0]
  | _, _, .sc _ => by simp [D.py, PyData.canLay0]
  | _, _, .ty _ => by simp [D.py, PyData.canLay0]
  | _, _, .txt _ => by simp [D.py, PyData.canLay0]
theorem Rps.lay : ∀ {ds : List D} {vs : List V}, Rps K B ds vs → PyData.canLayAll0 (pys ds) = true
  | _, _, .nil => by simp [pys, PyData.canLayAll0]
  | _, _, .cons h r => by simp [pys, PyData.canLayAll0, Rp.lay h, Rps.lay r]
end
theorem Rr.dp {d : D} {v : V} (s : Same B H) (n : d.isPy = true) (h : Rr K B H d v) : Dp K H v d.py := by
  cases h with
  | fz r => exact r.dp s n
  | ct c =>
    rename_i p
    generalize e : H p = o at c
    cases c with
    | lst r =>
      simp only [D.py]
      exact .lst (.of e) (r.dp s (by simpa [D.isPy] using n))
    | dk _ _ => simp [D.isPy] at n
    | dt _ _ => simp [D.isPy] at n
theorem Rr.lay {d : D} {v : V} (h : Rr K B H d v) : d.py.canLay0 = true := by
  cases h with
  | fz r => exact r.lay
  | ct c =>
    rename_i p
    generalize e : H p = o at c
    cases c with
    | lst r => simpa [D.py, PyData.canLay0] using r.lay
    | dk _ _ => simp [D.py, PyData.canLay0]
    | dt _ _ => simp [D.py, PyData.canLay0]
end
/-- no deeper than n -/
def depB (n : Nat) (d : D) : Bool := decide (d.py.depth ≤ n)

/-! ### == and != -/
def eqB (d e : D) : Bool := PyData.eqv d.py e.py
theorem Rr.txt {K : PySem.W.Frag} {B H : Hp} {x : Str} {v : V} (h : Rr K B H (.txt x) v) : v = .str x := by
  cases h with
  | fz r => cases r; rfl
  | ct c =>
    rename_i p
    generalize e : H p = o at c
    cases c
def eqD : List D → Option Vl
  | [.txt x, .txt y] => some (.im (.bl (decide (x = y))))
  | [d, e] => if (d.isPy && e.isPy && (depB 64 d || depB 64 e)) = true then some (.im (.bl (eqB d e))) else none
  | _ => none
def neD : List D → Option Vl
  | [.txt x, .txt y] => some (.im (.bl (!decide (x = y))))
  | [d, e] => if (d.isPy && e.isPy && (depB 64 d || depB 64 e)) = true then some (.im (.bl (!eqB d e))) else none
  | _ => none
def rEqA (K : PySem.W.Frag) : R2 := fun x y H Q => ∃ d e, Dp K H x d ∧ Dp K H y e ∧ d.canLay0 = true ∧ e.canLay0 = true ∧ min d.depth e.depth ≤ 64 ∧ Q (.bl (PyData.eqv d e)) H
def rNeA (K : PySem.W.Frag) : R2 := fun x y H Q => ∃ d e, Dp K H x d ∧ Dp K H y e ∧ d.canLay0 = true ∧ e.canLay0 = true ∧ min d.depth e.depth ≤ 64 ∧ Q (.bl (!PyData.eqv d e)) H
theorem op_eqA {X : Cx} (hu : X.A.units + 64 < cLine) : OpR X (compareOp .Eq) (rEqA X.K) := by
  intro pins s σ H x y v u Q I rx ry h
  obtain ⟨d, e, hd, he, sd, se, hm, q⟩ := h
  obtain ⟨as, r1⟩ := Dp.reads I d x v hd rx
  obtain ⟨bs, r2⟩ := Dp.reads I e y u he ry
  exact SeqAt.compareEq_reads r1 r2 sd se (by omega) ⟨.bl _, H, I, rfl, q⟩
theorem op_neA {X : Cx} (hu : X.A.units + 64 < cLine) : OpR X (compareOp .NotEq) (rNeA X.K) := by
  intro pins s σ H x y v u Q I rx ry h
  obtain ⟨d, e, hd, he, sd, se, hm, q⟩ := h
  obtain ⟨as, r1⟩ := Dp.reads I d x v hd rx
  obtain ⟨bs, r2⟩ := Dp.reads I e y u he ry
  exact SeqAt.compareNe_reads r1 r2 sd se (by omega) ⟨.bl _, H, I, rfl, q⟩
theorem dep_min {d e : D} (h : (depB 64 d || depB 64 e) = true) : min d.py.depth e.py.depth ≤ 64 := by
  rcases Bool.or_eq_true_iff.mp h with h | h
  · have := of_decide_eq_true h
    omega
  · have := of_decide_eq_true h
    omega
theorem op_eqD' {g : G0} : OpI g (compareOp .Eq) eqD := by
  refine ⟨fun x y H Q => rEqA g.K x y H Q ∨ rEq x y H Q, fun c X hX => by rw [← hX.eK]; exact (op_eqA hX.room.units).or op_eq, fun A B H vs env xs ds res Q S rr e q => ?_⟩
  unfold eqD at e
  split at e
  · cases e
    obtain ⟨x, y, rfl, r1, r2⟩ := pr2 rr
    rw [r1.txt, r2.txt]
    refine .inr ⟨rfl, ?_⟩
    rw [show decide (V.str _ = V.str _) = decide _ from decide_eq_decide.mpr ⟨fun z => V.str.inj z, fun z => congrArg V.str z⟩]
    exact q B H _ (Same.refl _) (.im S (.bl _))
  · split at e
    · rename_i hs
      cases e
      obtain ⟨x, y, rfl, r1, r2⟩ := pr2 rr
      obtain ⟨hs, h3⟩ := Bool.and_eq_true_iff.mp hs
      obtain ⟨h1, h2⟩ := Bool.and_eq_true_iff.mp hs
      exact .inl ⟨_, _, r1.dp S.same h1, r2.dp S.same h2, r1.lay, r2.lay, dep_min h3, q B H _ (Same.refl _) (.im S (.bl _))⟩
    · cases e
  · cases e
theorem op_neD' {g : G0} : OpI g (compareOp .NotEq) neD := by
  refine ⟨fun x y H Q => rNeA g.K x y H Q ∨ rNe x y H Q, fun c X hX => by rw [← hX.eK]; exact (op_neA hX.room.units).or op_ne, fun A B H vs env xs ds res Q S rr e q => ?_⟩
  unfold neD at e
  split at e
  · cases e
    obtain ⟨x, y, rfl, r1, r2⟩ := pr2 rr
    rw [r1.txt, r2.txt]
    refine .inr ⟨rfl, ?_⟩
    rw [show decide (V.str _ = V.str _) = decide _ from decide_eq_decide.mpr ⟨fun z => V.str.inj z, fun z => congrArg V.str z⟩]
    exact q B H _ (Same.refl _) (.im S (.bl _))
  · split at e
    · rename_i hs
      cases e
      obtain ⟨x, y, rfl, r1, r2⟩ := pr2 rr
      obtain ⟨hs, h3⟩ := Bool.and_eq_true_iff.mp hs
      obtain ⟨h1, h2⟩ := Bool.and_eq_true_iff.mp hs
      exact .inl ⟨_, _, r1.dp S.same h1, r2.dp S.same h2, r1.lay, r2.lay, dep_min h3, q B H _ (Same.refl _) (.im S (.bl _))⟩
    · cases e
  · cases e

/-! ### < <= > >= of ints and of texts -/
def ltStr (x y : Str) : Bool := decide (x.cps.toList < y.cps.toList)
def ltD : List D → Option Vl
  | [.int i, .int j] => some (.im (.bl (decide (i < j))))
  | [.str x, .str y] => some (.im (.bl (ltStr x y)))
  | _ => none
theorem op_ltD {g : G0} : OpI g (compareOp .Lt) ltD := by
  refine ⟨_, fun c X hX => op_lt.or op_lt_str, fun A B H vs env xs ds res Q S rr e q => ?_⟩
  unfold ltD at e
  split at e
  · cases e
    obtain ⟨x, y, rfl, r1, r2⟩ := pr2 rr
    exact .inl ⟨_, _, r1.int, r2.int, q B H _ (Same.refl _) (.im S (.bl _))⟩
  · cases e
    obtain ⟨x, y, rfl, r1, r2⟩ := pr2 rr
    exact .inr ⟨_, _, r1.str.1, r2.str.1, q B H _ (Same.refl _) (.im S (.bl _))⟩
  · cases e
def leD : List D → Option Vl
  | [.int i, .int j] => some (.im (.bl (decide (i ≤ j))))
  | _ => none
theorem op_leD {g : G0} : OpI g (compareOp .LtE) leD := by
  refine ⟨_, fun c X hX => op_le, fun A B H vs env xs ds res Q S rr e q => ?_⟩
  unfold leD at e
  split at e
  · cases e
    obtain ⟨x, y, rfl, r1, r2⟩ := pr2 rr
    exact ⟨_, _, r1.int, r2.int, q B H _ (Same.refl _) (.im S (.bl _))⟩
  · cases e
def gtD : List D → Option Vl
  | [.int i, .int j] => some (.im (.bl (decide (j < i))))
  | _ => none
theorem op_gtD {g : G0} : OpI g (compareOp .Gt) gtD := by
  refine ⟨_, fun c X hX => op_gt, fun A B H vs env xs ds res Q S rr e q => ?_⟩
  unfold gtD at e
  split at e
  · cases e
    obtain ⟨x, y, rfl, r1, r2⟩ := pr2 rr
    exact ⟨_, _, r1.int, r2.int, q B H _ (Same.refl _) (.im S (.bl _))⟩
  · cases e
def geD : List D → Option Vl
  | [.int i, .int j] => some (.im (.bl (decide (j ≤ i))))
  | _ => none
theorem op_geD {g : G0} : OpI g (compareOp .GtE) geD := by
  refine ⟨_, fun c X hX => op_ge, fun A B H vs env xs ds res Q S rr e q => ?_⟩
  unfold geD at e
  split at e
  · cases e
    obtain ⟨x, y, rfl, r1, r2⟩ := pr2 rr
    exact ⟨_, _, r1.int, r2.int, q B H _ (Same.refl _) (.im S (.bl _))⟩
  · cases e

/-! ### is, is not -/
def isD : List D → Option Vl
  | [d, .non] => match d with
    | .non => some (.im (.bl true))
    | _ => some (.im (.bl false))
  | [.bl a, .bl b] => some (.im (.bl (decide (a = b))))
  | _ => none
def D.isNon : D → Bool
  | .non => true
  | _ => false
theorem Rr.nonq {K : PySem.W.Frag} {B H : Hp} {d : D} {v : V} (h : Rr K B H d v) : decide (v = .non) = d.isNon := by
  cases h with
  | fz r => cases r <;> simp [D.isNon]
  | ct c =>
    rename_i p
    generalize e : H p = o at c
    cases c <;> simp [D.isNon]
theorem op_isD {g : G0} : OpI g (compareOp .Is) isD := by
  refine ⟨_, fun c X hX => op_isN.or op_isBl, fun A B H vs env xs ds res Q S rr e q => ?_⟩
  unfold isD at e
  split at e
  · rename_i d
    obtain ⟨x, y, rfl, r1, r2⟩ := pr2 rr
    refine .inl ⟨r2.non, ?_⟩
    rw [r1.nonq]
    cases d <;> (cases e; exact q B H _ (Same.refl _) (.im S (.bl _)))
  · cases e
    obtain ⟨x, y, rfl, r1, r2⟩ := pr2 rr
    exact .inr ⟨_, _, r1.bl, r2.bl, q B H _ (Same.refl _) (.im S (.bl _))⟩
  · cases e
def isnD : List D → Option Vl
  | [d, .non] => match d with
    | .non => some (.im (.bl false))
    | _ => some (.im (.bl true))
  | [.bl a, .bl b] => some (.im (.bl (!decide (a = b))))
  | _ => none
theorem op_isnD {g : G0} : OpI g (compareOp .IsNot) isnD := by
  refine ⟨_, fun c X hX => op_notN.or op_notBl, fun A B H vs env xs ds res Q S rr e q => ?_⟩
  unfold isnD at e
  split at e
  · rename_i d
    obtain ⟨x, y, rfl, r1, r2⟩ := pr2 rr
    refine .inl ⟨r2.non, ?_⟩
    rw [r1.nonq]
    cases d <;> (cases e; exact q B H _ (Same.refl _) (.im S (.bl _)))
  · cases e
    obtain ⟨x, y, rfl, r1, r2⟩ := pr2 rr
    exact .inr ⟨_, _, r1.bl, r2.bl, q B H _ (Same.refl _) (.im S (.bl _))⟩
  · cases e

/-! ### keys -/
def keyD : D → Option Key
  | .int i => some (.inl i)
  | .str x => some (.inr x)
  | _ => none
def keysD : List D → Option (List Key)
  | [] => some []
  | d :: ds => match keyD d, keysD ds with
    | some k, some ks => some (k :: ks)
    | _, _ => none
def getK {κ : Type} [DecidableEq κ] (es : List (κ × D)) (k : κ) : Option D := (es.find? fun e => decide (e.1 = k)).map (·.2)
section
variable {K : PySem.W.Frag} {B H : Hp}
theorem Rr.key {d : D} {v : V} {k : Key} (h : Rr K B H d v) (e : keyD d = some k) : v = kV k := by
  cases d with
  | int i =>
    cases e
    exact h.int
  | str x =>
    cases e
    exact h.str.1
  | _ => cases e
theorem Rps.keys : ∀ {ds : List D} {vs : List V} {ks : List Key}, Rps K B ds vs → keysD ds = some ks → vs = ks.map kV
  | _, _, ks, .nil, e => by
    cases e
    rfl
  | d :: ds, v :: vs, ks, .cons h r, e => by
    unfold keysD at e
    split at e
    · rename_i k ks' h1 h2
      cases e
      rw [Rr.key (H := B) (.fz h) h1, Rps.keys r h2]
      rfl
    · cases e
theorem getK_val {κ : Type} [DecidableEq κ] {k : κ} : ∀ {es : List (κ × D)} {kvs : List (κ × V)}, es.map (·.1) = kvs.map (·.1) → Rps K B (es.map (·.2)) (kvs.map (·.2)) →
    (∀ d, getK es k = some d → ∃ v, valV kvs k = some v ∧ Rp K B d v) ∧ (getK es k = none → valV kvs k = none)
  | [], [], _, _ => ⟨fun d h => by simp [getK] at h, fun _ => rfl⟩
  | [], _ :: _, e, _ => by simp at e
  | _ :: _, [], e, _ => by simp at e
  | p :: es, q :: kvs, e, r => by
    have e1 : p.1 = q.1 ∧ es.map (·.1) = kvs.map (·.1) := by simpa using e
    cases r with
    | cons r1 r2 =>
      by_cases hk : p.1 = k
      · have g1 : getK (p :: es) k = some p.2 := by simp [getK, hk]
        have g2 : valV (q :: kvs) k = some q.2 := valV_pos (e1.1 ▸ hk)
        rw [g1, g2]
        exact ⟨fun d h => by cases h; exact ⟨_, rfl, r1⟩, fun h => by cases h⟩
      · have g1 : getK (p :: es) k = getK es k := by simp [getK, hk]
        have g2 : valV (q :: kvs) k = valV kvs k := valV_neg (fun z => hk (e1.1.trans z))
        rw [g1, g2]
        exact getK_val e1.2 r2
end

/-! ### in, not in -/
def flatD : D → Bool
  | .non => true
  | .bl _ => true
  | .int _ => true
  | .str _ => true
  | _ => false
section
variable {K : PySem.W.Frag} {B H : Hp}
theorem Rp.flat {d : D} {v : V} (h : Rp K B d v) (f : flatD d = true) : flatV v = true := by
  cases h <;> first | rfl | cases f
theorem Rp.eqf {d e : D} {v u : V} (h : Rp K B d v) (h' : Rp K B e u) (f : flatD d = true) (f' : flatD e = true) : eqV v u = eqB d e := by
  cases h <;> (first | (cases f; done) | (cases h' <;> first | (cases f'; done) | (simp [eqV, eqB, D.py, PyData.eqv])))
theorem Rr.flat {d : D} {v : V} (h : Rr K B H d v) (f : flatD d = true) : Rp K B d v := by
  cases h with
  | fz r => exact r
  | ct c =>
    rename_i p
    generalize e : H p = o at c
    cases c <;> cases f
theorem Rps.flats : ∀ {ds : List D} {vs : List V}, Rps K B ds vs → ds.all flatD = true → vs.all flatV = true
  | _, _, .nil, _ => rfl
  | d :: ds, _, .cons h r, f => by
    have f : flatD d = true ∧ ds.all flatD = true := by simpa using f
    rw [List.all_cons, h.flat f.1, Rps.flats r f.2]
    rfl
theorem Rps.inf {e : D} {u : V} (h' : Rp K B e u) (f' : flatD e = true) : ∀ {ds : List D} {vs : List V}, Rps K B ds vs → ds.all flatD = true → inV u vs = ds.any fun d => eqB d e
  | _, _, .nil, _ => rfl
  | d :: ds, v :: vs, .cons h r, f => by
    have f : flatD d = true ∧ ds.all flatD = true := by simpa using f
    have ih := Rps.inf h' f' r f.2
    unfold inV at ih ⊢
    rw [List.any_cons, List.any_cons, ih, h.eqf h' f.1 f']
end
def depsB (n : Nat) (ds : List D) : Bool := decide (PyData.depthAll (pys ds) ≤ n)
def inB : List D → Option Bool
  | [.str x, .str y] => some (Txt.contains y x)
  | [d, .lst ds] => if (d.isPy && arePy ds && depB 64 d && depsB 63 ds) = true then some (ds.any fun z => eqB z d) else none
  | [d, .tup ds] => if (flatD d && ds.all flatD) = true then some (ds.any fun z => eqB z d) else none
  | [d, .dk es] => match keyD d with
    | some k => some (getK es k).isSome
    | none => none
  | [.tup ds, .dt es] => match keysD ds with
    | some k => some (getK es k).isSome
    | none => none
  | _ => none
def inD (ds : List D) : Option Vl := (inB ds).map fun b => .im (.bl b)
def notInD (ds : List D) : Option Vl := (inB ds).map fun b => .im (.bl (!b))
def rInAny (K : PySem.W.Frag) (neg : Bool) : R2 := fun x y H Q =>
  ((∃ i j, x = .str i ∧ y = .str j ∧ Q (.bl (if neg then !Txt.contains j i else Txt.contains j i)) H) ∨ (∃ d ds, Dp K H x d ∧ Dp K H y (.list ds) ∧ SeqAt.shaped d = true ∧ SeqAt.shaped (.list ds) = true ∧ Q (.bl (if neg then !(ds.any fun z => PyData.eqv z d) else ds.any fun z => PyData.eqv z d)) H)) ∨
  (rIn K neg x y H Q ∨ ∃ a ov, y = .ref a ∧ DGet H a x ov ∧ Q (.bl (if neg then !ov.isSome else ov.isSome)) H)
theorem op_inAny {X : Cx} (hu : X.A.units + 65 < cLine) : OpR X (compareOp .In) (rInAny X.K false) := by
  refine (OpR.or ?_ ?_).or (OpR.or op_in_seq ?_)
  · exact op_in_str
  · exact op_inD hu
  · intro pins s σ H x y v u Q I rx ry h
    obtain ⟨a, ov, rfl, gd, q⟩ := h
    obtain rfl : u = Value.ref a := ry
    exact d_in (by omega) I gd rx fun s' I' => ⟨.bl _, H, I', rfl, q⟩
theorem op_notInAny {X : Cx} (hu : X.A.units + 65 < cLine) : OpR X (compareOp .NotIn) (rInAny X.K true) := by
  refine (OpR.or ?_ ?_).or (OpR.or op_notIn_seq ?_)
  · exact op_notIn_str
  · exact op_notInD hu
  · intro pins s σ H x y v u Q I rx ry h
    obtain ⟨a, ov, rfl, gd, q⟩ := h
    obtain rfl : u = Value.ref a := ry
    exact d_notIn (by omega) I gd rx fun s' I' => ⟨.bl _, H, I', rfl, q⟩
theorem pys_any (d : D) : ∀ ds : List D, ((pys ds).any fun z => PyData.eqv z d.py) = ds.any fun z => eqB z d
  | [] => rfl
  | e :: ds => by
    show (PyData.eqv e.py d.py || (pys ds).any _) = _
    rw [pys_any d ds]
    rfl
theorem inAny_ok {K : PySem.W.Frag} {A : Anc} {B H : Hp} {vs : L2.St} {env : Env} {neg : Bool} {xs : List V} {ds : List D} {b : Bool} {Q : VK} (S : SR K A B H vs env) (rr : Paired (Rr K B H) ds xs) (e : inB ds = some b)
    (q : Q (.bl (if neg = true then !b else b)) H) : on2 (rInAny K neg) xs H Q := by
  unfold inB at e
  split at e
  · cases e
    obtain ⟨x, y, rfl, r1, r2⟩ := pr2 rr
    exact .inl (.inl ⟨_, _, r1.str.1, r2.str.1, q⟩)
  · rename_i d es
    split at e
    · rename_i hs
      cases e
      simp only [Bool.and_eq_true] at hs
      obtain ⟨x, y, rfl, r1, r2⟩ := pr2 rr
      have h2 := r2.dp S.same (by simpa [D.isPy] using hs.1.1.2)
      have l2 := r2.lay
      simp only [D.py] at h2 l2
      refine .inl (.inr ⟨d.py, pys es, r1.dp S.same hs.1.1.1, h2, ?_, ?_, ?_⟩)
      · exact Bool.and_eq_true_iff.mpr ⟨r1.lay, hs.1.2⟩
      · refine Bool.and_eq_true_iff.mpr ⟨l2, decide_eq_true ?_⟩
        have := of_decide_eq_true hs.2
        simp only [PyData.depth]
        omega
      · rw [pys_any]
        exact q
    · cases e
  · rename_i d es _
    split at e
    · rename_i hs
      cases e
      have hs := Bool.and_eq_true_iff.mp hs
      obtain ⟨x, y, rfl, r1, r2⟩ := pr2 rr
      obtain ⟨a, us, rfl, ha, ta, ra⟩ := r2.tup S.same
      have r1' := r1.flat hs.1
      refine .inr (.inl ⟨a, us, rfl, .inr (.of ha), r1'.flat hs.1, ra.flats hs.2, ?_⟩)
      rw [Rps.inf r1' hs.1 ra hs.2]
      exact q
    · cases e
  · rename_i d es
    split at e
    · rename_i k hk
      cases e
      obtain ⟨x, y, rfl, r1, r2⟩ := pr2 rr
      obtain ⟨a, kvs, rfl, ha, he, hr⟩ := r2.dk S.same
      rw [r1.key hk]
      refine .inr (.inr ⟨a, valV kvs k, rfl, .k ha, ?_⟩)
      obtain ⟨g1, g2⟩ := getK_val (k := k) he hr
      cases hg : getK es k with
      | none =>
        rw [g2 hg]
        rw [hg] at q
        exact q
      | some d' =>
        obtain ⟨v', h1, _⟩ := g1 d' hg
        rw [h1]
        rw [hg] at q
        exact q
    · cases e
  · rename_i ks es
    split at e
    · rename_i k hk
      cases e
      obtain ⟨x, y, rfl, r1, r2⟩ := pr2 rr
      obtain ⟨a, kvs, rfl, ha, he, hr⟩ := r2.dt S.same
      obtain ⟨b, us, rfl, hb, tb, rb⟩ := r1.tup S.same
      rw [rb.keys hk] at hb
      refine .inr (.inr ⟨a, valV kvs k, rfl, .t ha hb, ?_⟩)
      obtain ⟨g1, g2⟩ := getK_val (k := k) he hr
      cases hg : getK es k with
      | none =>
        rw [g2 hg]
        rw [hg] at q
        exact q
      | some d' =>
        obtain ⟨v', h1, _⟩ := g1 d' hg
        rw [h1]
        rw [hg] at q
        exact q
    · cases e
  · cases e
theorem room65 {k : Nat} {A : Around} (h : Room k A) : A.units + 65 < cLine := by
  have := h.un
  omega
theorem op_inD' {g : G0} : OpI g (compareOp .In) inD := by
  refine ⟨rInAny g.K false, fun c X hX => by rw [← hX.eK]; exact op_inAny (room65 hX.room), fun A B H vs env xs ds res Q S rr e q => ?_⟩
  unfold inD at e
  cases hb : inB ds with
  | none =>
    rw [hb] at e
    cases e
  | some b =>
    rw [hb] at e
    cases e
    exact inAny_ok S rr hb (by rw [if_neg Bool.false_ne_true]; exact q B H _ (Same.refl _) (.im S (.bl _)))
theorem op_notInD' {g : G0} : OpI g (compareOp .NotIn) notInD := by
  refine ⟨rInAny g.K true, fun c X hX => by rw [← hX.eK]; exact op_notInAny (room65 hX.room), fun A B H vs env xs ds res Q S rr e q => ?_⟩
  unfold notInD at e
  cases hb : inB ds with
  | none =>
    rw [hb] at e
    cases e
  | some b =>
    rw [hb] at e
    cases e
    exact inAny_ok S rr hb (by rw [if_pos rfl]; exact q B H _ (Same.refl _) (.im S (.bl _)))

/-! ### a < b < c -/
def eChain (f h : List D → Option Vl) (ma mb mc : M Vl) : M Vl := bd ma fun ra => bd mb fun rb e => match cnt e ra.hold, cnt e rb.hold with
  | some da, some db => match f [da, db] with
    | some (.im (.bl true)) => bd mc (fun rc e2 => match cnt e2 rb.hold, cnt e2 rc.hold with
      | some db, some dc => match h [db, dc] with
        | some (.im d) => some (.im d, e2)
        | _ => none
      | _, _ => none) e
    | some (.im (.bl false)) => some (.im (.bl false), e)
    | _ => none
  | _, _ => none
section
variable {K : PySem.W.Frag} {A : Anc}
theorem sx_chain {r r' : R2} {ta tb tc : TE} {ma mb mc : M Vl} {f h : List D → Option Vl} (hf : PrS K (on2 r) f) (hh : PrS K (on2 r') h) (ha : SEX K A ta ma) (hb : SEX K A tb mb) (hc : SEX K A tc mc) : SEX K A (tChain r r' ta tb tc) (eChain f h ma mb mc) :=
  fun σ τ B H env pe env' res Q S hl e q => by
  obtain ⟨ra, e1, h1, e⟩ := bd_inv e
  obtain ⟨rb, e2, h2, e⟩ := bd_inv e
  refine ha σ τ B H env pe e1 ra _ S hl h1 fun B1 H1 x s1 hl1 hx => ?_
  obtain ⟨B2, s2, S2, hhx⟩ := hx.held
  refine hb σ τ B2 H1 e1 pe e2 rb _ S2 hl1 h2 fun B3 H3 y s3 hl3 hy => ?_
  obtain ⟨B4, s4, S4, hhy⟩ := hy.held
  have hhx := hhx.mono (s3.trans s4)
  split at e
  · rename_i da db hda hdb
    have rx := Hv.rr S4 hl3 hhx hda
    have ry := Hv.rr S4 hl3 hhy hdb
    split at e
    · rename_i hfe
      refine hf A B4 H3 (σ ++ τ) (e2 ++ pe) [x, y] [da, db] _ _ S4 (.cons rx (.cons ry .nil)) hfe fun B5 H5 z s5 hz => ?_
      obtain ⟨S5, rz⟩ := hz
      cases rz
      refine ⟨true, rfl, ?_⟩
      rw [if_pos rfl]
      obtain ⟨rc, e3, h3, e⟩ := bd_inv e
      refine hc σ τ B5 H5 e2 pe e3 rc _ S5 hl3 h3 fun B6 H6 w s6 hl6 hw => ?_
      obtain ⟨B7, s7, S7, hhw⟩ := hw.held
      split at e
      · rename_i db' dc hdb' hdc
        split at e
        · rename_i d hhe
          cases e
          have ry := Hv.rr S7 hl6 (hhy.mono ((s5.trans s6).trans s7)) hdb'
          have rw' := Hv.rr S7 hl6 hhw hdc
          exact hh A B7 H6 (σ ++ τ) (_ ++ pe) [y, w] [db', dc] _ _ S7 (.cons ry (.cons rw' .nil)) hhe fun B8 H8 v s8 hv => q B8 H8 v (((((((s1.trans s2).trans s3).trans s4).trans s5).trans s6).trans s7).trans s8) hl6 hv
        · cases e
      · cases e
    · rename_i hfe
      cases e
      refine hf A B4 H3 (σ ++ τ) (_ ++ pe) [x, y] [da, db] _ _ S4 (.cons rx (.cons ry .nil)) hfe fun B5 H5 z s5 hz => ?_
      obtain ⟨S5, rz⟩ := hz
      cases rz
      refine ⟨false, rfl, ?_⟩
      rw [if_neg Bool.false_ne_true]
      exact q B5 H5 _ ((((s1.trans s2).trans s3).trans s4).trans s5) hl3 ⟨S5, .bl _⟩
    · cases e
  · cases e
theorem ee_chain {g : G0} {c : Ct} {a b d : Expr} {pos : Pos} {ma mb mc : M Vl} {op op' : CmpOp} {f h : List D → Option Vl} (ho : OpI g (compareOp op) f) (ho' : OpI g (compareOp op') h) (ha : EE g c a ma) (hb : EE g c b mb) (hc : EE g c d mc) (hm : lastMarks [op, op'] [b, d] = false) :
    EE g c (.Compare a [op, op'] [b, d] pos) (eChain f h ma mb mc) := by
  obtain ⟨r, o1, o2⟩ := ho
  obtain ⟨r', o3, o4⟩ := ho'
  obtain ⟨t, h1, h2⟩ := ha
  obtain ⟨u, h3, h4⟩ := hb
  obtain ⟨v, h5, h6⟩ := hc
  exact ⟨_, fun X hX => pe_chain (o1 c X hX) (o3 c X hX) (h1 X hX) (h3 X hX) (h5 X hX) (hm := hm), fun A => sx_chain o2 o4 (h2 A) (h4 A) (h6 A)⟩
end
end PD
namespace PD
open PySem PySem.Spec PyProof.Rows L2

/-! ### x[i] -/
def ixD : List D → Option Vl
  | [.lst ds, .int i] => (atI ds i).map .im
  | [.tup ds, .int i] => (atI ds i).map .im
  | [.sc ns, .int i] => (atI ns i).map fun n => .im (.int n)
  | [.str x, .int i] => if small x.length = true then (atI x.cps.toList i).map fun c => .im (.str ⟨#[c]⟩) else none
  | [.dk es, k] => match keyD k with
    | some k => (getK es k).map .im
    | none => none
  | [.dt es, .tup ks] => match keysD ks with
    | some k => (getK es k).map .im
    | none => none
  | _ => none
def rIxDct : R2 := fun x y H Q => ∃ a v, x = .ref a ∧ DGet H a y (some v) ∧ Q v H
theorem ix_dct {X : Cx} (hu : X.A.units + 1 < cLine) : IxR X rIxDct := by
  intro value slice pins s σ H x y v u Q I rx ry h hs
  obtain ⟨a, w, rfl, gd, q⟩ := h
  cases rx
  exact tail_any (dict_typeIs I gd) PySem.F.slot_dict_getitem.lookup (d_getItem hu I gd ry fun w' s' I' rw' => ⟨w, H, I', rw', q⟩) hs
def rIxA (K : PySem.W.Frag) : R2 := fun x y H Q => (rIxL K x y H Q ∨ rIxT K x y H Q) ∨ (rIxS x y H Q ∨ rIxDct x y H Q)
theorem ix_any {X : Cx} (hu : X.A.units + 1 < cLine) : IxR X (rIxA X.K) := (ix_list.or ix_tup).or (ix_str.or (ix_dct hu))
section
variable {K : PySem.W.Frag} {A : Anc} {B H : Hp} {vs : L2.St} {env : Env}
theorem Rps.atI {ds : List D} {xs : List V} {i : Int} {d : D} (r : Rps K B ds xs) (h : L2.atI ds i = some d) : ∃ v, L2.atI xs i = some v ∧ Rp K B d v := by
  unfold L2.atI at h ⊢
  rw [← r.length]
  cases hj : ixN ds.length i with
  | none =>
    rw [hj] at h
    cases h
  | some j =>
    rw [hj] at h
    exact r.get h
theorem atI_mem {α : Type} {xs : List α} {i : Int} {x : α} (h : L2.atI xs i = some x) : x ∈ xs := by
  unfold L2.atI at h
  cases hj : ixN xs.length i with
  | none =>
    rw [hj] at h
    cases h
  | some j =>
    rw [hj] at h
    exact List.mem_of_getElem? h
theorem ix_ok {xs : List V} {ds : List D} {res : Vl} {Q : VK} (S : SR K A B H vs env) (rr : Paired (Rr K B H) ds xs) (e : ixD ds = some res) (q : ∀ B' H' v, Same B B' → VRp K A B' H' vs env res v → Q v H') : on2 (rIxA K) xs H Q := by
  unfold ixD at e
  split at e
  · rename_i es i
    cases hd : L2.atI es i with
    | none =>
      rw [hd] at e
      cases e
    | some d =>
      rw [hd] at e
      cases e
      obtain ⟨x, y, rfl, r1, r2⟩ := pr2 rr
      obtain ⟨a, us, rfl, ha, ra⟩ := r1.lst S.same
      obtain ⟨v, h1, h2⟩ := ra.atI hd
      exact .inl (.inl ⟨a, us, i, v, rfl, r2.int, .of ha, h1, q B H v (Same.refl _) (.im S h2)⟩)
  · rename_i es i
    cases hd : L2.atI es i with
    | none =>
      rw [hd] at e
      cases e
    | some d =>
      rw [hd] at e
      cases e
      obtain ⟨x, y, rfl, r1, r2⟩ := pr2 rr
      obtain ⟨a, us, rfl, ha, _, ra⟩ := r1.tup S.same
      obtain ⟨v, h1, h2⟩ := ra.atI hd
      exact .inl (.inr ⟨a, us, i, v, rfl, r2.int, .of ha, h1, q B H v (Same.refl _) (.im S h2)⟩)
  · rename_i ns i
    cases hd : L2.atI ns i with
    | none =>
      rw [hd] at e
      cases e
    | some n =>
      rw [hd] at e
      cases e
      obtain ⟨x, y, rfl, r1, r2⟩ := pr2 rr
      obtain ⟨a, rfl, ha⟩ := r1.sc S.same
      have h1 : L2.atI (ns.map V.int) i = some (.int n) := by
        unfold L2.atI at hd ⊢
        rw [List.length_map]
        cases hj : ixN ns.length i with
        | none =>
          rw [hj] at hd
          cases hd
        | some j =>
          rw [hj] at hd
          show (ns.map V.int)[j]? = _
          rw [List.getElem?_map, show ns[j]? = some n from hd]
          rfl
      exact .inl (.inl ⟨a, _, i, _, rfl, r2.int, ha, h1, q B H _ (Same.refl _) (.im S (.int n))⟩)
  · rename_i z i
    split at e
    · rename_i hs
      cases hd : L2.atI z.cps.toList i with
      | none =>
        rw [hd] at e
        cases e
      | some c =>
        rw [hd] at e
        cases e
        obtain ⟨x, y, rfl, r1, r2⟩ := pr2 rr
        obtain ⟨e1, o1⟩ := r1.str
        exact .inr (.inl ⟨z, i, c, e1, r2.int, of_decide_eq_true hs, hd, q B H _ (Same.refl _) (.im S (.str _ (ok_sub (l := [c]) o1 fun c' hc' => by
          rw [List.mem_singleton.mp hc']
          exact atI_mem hd)))⟩)
    · cases e
  · rename_i es kd
    split at e
    · rename_i k hk
      cases hd : getK es k with
      | none =>
        rw [hd] at e
        cases e
      | some d =>
        rw [hd] at e
        cases e
        obtain ⟨x, y, rfl, r1, r2⟩ := pr2 rr
        obtain ⟨a, kvs, rfl, ha, he, hr⟩ := r1.dk S.same
        rw [r2.key hk]
        obtain ⟨v, h1, h2⟩ := (getK_val (k := k) he hr).1 d hd
        have gd := DGet.k (k := k) ha
        rw [h1] at gd
        exact .inr (.inr ⟨a, v, rfl, gd, q B H v (Same.refl _) (.im S h2)⟩)
    · cases e
  · rename_i es ks
    split at e
    · rename_i k hk
      cases hd : getK es k with
      | none =>
        rw [hd] at e
        cases e
      | some d =>
        rw [hd] at e
        cases e
        obtain ⟨x, y, rfl, r1, r2⟩ := pr2 rr
        obtain ⟨a, kvs, rfl, ha, he, hr⟩ := r1.dt S.same
        obtain ⟨b, us, rfl, hb, tb, rb⟩ := r2.tup S.same
        rw [rb.keys hk] at hb
        obtain ⟨v, h1, h2⟩ := (getK_val (k := k) he hr).1 d hd
        have gd := DGet.t ha hb
        rw [h1] at gd
        exact .inr (.inr ⟨a, v, rfl, gd, q B H v (Same.refl _) (.im S h2)⟩)
    · cases e
  · cases e
end
section
variable {g : G0} {c : Ct} {e a b : Expr} {es : List Expr} {pos p apos : Pos} {m ma mb : M Vl} {ms : M (List Vl)}
theorem ee_ix (h : EE g c a ma) (h' : EE g c b mb) (hs : PlainIx b) : EE g c (.Subscript a b pos) (eP ixD (cA ma (cA mb cN))) := by
  obtain ⟨t, h1, h2⟩ := h
  obtain ⟨u, h3, h4⟩ := h'
  refine ⟨tOp (rIxA g.K) t u, fun X hX => ?_, fun A => sx_op (fun A B H vs env xs ds res Q S rr e q => ix_ok S rr e q) (h2 A) (h4 A)⟩
  rw [← hX.eK]
  exact pe_ix (ix_any (hu_of hX.room)) (h1 X hX) (h3 X hX) hs
end

/-! ### x[i:j] -/
def cutD {α : Type} (ds : List α) (lo hi : Option Int) : List α := (ds.drop (HT.sIx ds.length 0 lo)).take (HT.sIx ds.length ds.length hi - HT.sIx ds.length 0 lo)
def slD (lo hi : Option Int) : D → Option Vl
  | .lst ds => some (.fr (.lst (cutD ds lo hi)))
  | .tup ds => some (.im (.tup (cutD ds lo hi)))
  | .sc ns => some (.fr (.lst ((cutD ns lo hi).map D.int)))
  | .str x => if small x.length = true then some (.im (.str (cutS x lo hi))) else none
  | _ => none
def rSlAny (K : PySem.W.Frag) : V → Option Int → Option Int → Hp → VK → Prop := fun x lo hi H Q => (rSlL K x lo hi H Q ∨ rSlA K x lo hi H Q) ∨ rSlS x lo hi H Q
theorem sl_any {X : Cx} : SlR X (rSlAny X.K) := (sl_list.or sl_tupA).or sl_str
section
variable {K : PySem.W.Frag} {A : Anc} {B H : Hp} {vs : L2.St} {env : Env}
theorem sl_ok {x : V} {d : D} {lo hi : Option Int} {res : Vl} {Q : VK} (S : SR K A B H vs env) (rr : Rr K B H d x) (e : slD lo hi d = some res) (q : ∀ B' H' v, Same B B' → VRp K A B' H' vs env res v → Q v H') : rSlAny K x lo hi H Q := by
  unfold slD at e
  split at e
  · cases e
    obtain ⟨a, us, rfl, ha, ra⟩ := rr.lst S.same
    refine .inl (.inl ⟨a, us, rfl, .of ha, fun p hp => q B _ _ (Same.refl _) (.lst S hp ?_)⟩)
    unfold cutV cutD
    rw [← ra.length]
    exact (ra.drop _).take _
  · rename_i ds
    cases e
    obtain ⟨a, us, rfl, ha, ta, ra⟩ := rr.tup S.same
    have rc : Rps K B (cutD ds lo hi) (cutV us lo hi) := by
      unfold cutV cutD
      rw [← ra.length]
      exact (ra.drop _).take _
    refine .inl (.inr ⟨a, us, rfl, .of ha, fun ⟨z1, z2⟩ => ?_, fun _ p hp => ?_⟩)
    · have e1 : cutD ds lo hi = ds := by
        unfold cutD
        rw [ra.length, z1, z2, List.drop_zero, Nat.sub_zero, ← ra.length, List.take_length]
      rw [e1] at q
      exact q B H _ (Same.refl _) (.im S (.tup ta ra))
    · obtain ⟨B', s', v'⟩ := VRp.tup S hp rc
      exact q B' _ _ s' v'
  · rename_i ns
    cases e
    obtain ⟨a, rfl, ha⟩ := rr.sc S.same
    refine .inl (.inl ⟨a, _, rfl, ha, fun p hp => q B _ _ (Same.refl _) (.lst S hp ?_)⟩)
    have e1 : cutV (ns.map V.int) lo hi = (cutD ns lo hi).map V.int := by
      unfold cutV cutD
      rw [List.length_map, List.map_take, List.map_drop]
    rw [e1]
    exact Rps.of_ints _
  · rename_i z
    split at e
    · rename_i hs
      cases e
      obtain ⟨e1, o1⟩ := rr.str
      exact .inr ⟨z, e1, of_decide_eq_true hs, q B H _ (Same.refl _) (.im S (.str _ (ok_sub o1 fun c hc => List.mem_of_mem_drop (List.mem_of_mem_take hc))))⟩
    · cases e
  · cases e
/-- a slice's end: left out, or a number -/
def SOX (K : PySem.W.Frag) (A : Anc) (t : TO) (m : M (Option Int)) : Prop := ∀ (σ τ : L2.St) (B H : Hp) (env pe env' : Env) (o : Option Int) (Q : Option Int → Hp → Prop), SR K A B H (σ ++ τ) (env ++ pe) → σ.length = env.length → m env = some (o, env') →
  (∀ B' H', Same B B' → σ.length = env'.length → SR K A B' H' (σ ++ τ) (env' ++ pe) → Q o H') → t σ H Q
def oN : M (Option Int) := rt none
def oS (m : M Vl) : M (Option Int) := bd m fun r e => match r with
  | .im (.int i) => some (some i, e)
  | _ => none
theorem so_none : SOX K A tNoPart oN := fun σ τ B H env pe env' o Q S hl e q => by
  cases e
  exact q B H (Same.refl _) hl S
theorem so_some {t : TE} {m : M Vl} (h : SEX K A t m) : SOX K A (tPart t) (oS m) := fun σ τ B H env pe env' o Q S hl e q => by
  obtain ⟨r, e1, h1, e⟩ := bd_inv e
  split at e
  · rename_i i
    cases e
    refine h σ τ B H env pe _ _ _ S hl h1 fun B1 H1 v s1 hl1 hv => ?_
    obtain ⟨S1, rr⟩ := hv
    cases rr
    exact ⟨i, rfl, q B1 H1 s1 hl1 S1⟩
  · cases e
def eSl (ma : M Vl) (lo hi : M (Option Int)) : M Vl := bd ma fun r => bd lo fun l => bd hi fun h e => match cnt e r.hold with
  | some d => match slD l h d with
    | some (.im d') => some (.im d', e)
    | some (.fr d') => some (.fr d', e)
    | _ => none
  | none => none
theorem sx_sl {t : TE} {tl th : TO} {ma : M Vl} {lo hi : M (Option Int)} (h : SEX K A t ma) (hl' : SOX K A tl lo) (hh : SOX K A th hi) : SEX K A (tSl (rSlAny K) t tl th) (eSl ma lo hi) := fun σ τ B H env pe env' res Q S hl e q => by
  obtain ⟨r, e1, h1, e⟩ := bd_inv e
  obtain ⟨l, e2, h2, e⟩ := bd_inv e
  obtain ⟨u, e3, h3, e⟩ := bd_inv e
  refine h σ τ B H env pe e1 r _ S hl h1 fun B1 H1 v s1 hl1 hv => ?_
  obtain ⟨B2, s2, S2, hhv⟩ := hv.held
  refine hl' σ τ B2 H1 e1 pe e2 l _ S2 hl1 h2 fun B3 H3 s3 hl3 S3 => ?_
  refine hh σ τ B3 H3 e2 pe e3 u _ S3 hl3 h3 fun B4 H4 s4 hl4 S4 => ?_
  split at e
  · rename_i d hd
    have rr := Hv.rr S4 hl4 (hhv.mono (s3.trans s4)) hd
    split at e
    · rename_i d' hs
      cases e
      exact sl_ok S4 rr hs fun B5 H5 w s5 hw => q B5 H5 w ((((s1.trans s2).trans s3).trans s4).trans s5) hl4 hw
    · rename_i d' hs
      cases e
      exact sl_ok S4 rr hs fun B5 H5 w s5 hw => q B5 H5 w ((((s1.trans s2).trans s3).trans s4).trans s5) hl4 hw
    · cases e
  · cases e
end
def EO (g : G0) (c : Ct) (e : Option Expr) (m : M (Option Int)) : Prop := ∃ t, (∀ X, Cok g c X → PO X e t) ∧ ∀ A, SOX g.K A t m
section
variable {g : G0} {c : Ct} {e a b : Expr} {es : List Expr} {pos p p2 apos : Pos} {m ma mb : M Vl} {ms : M (List Vl)}
theorem eo_none : EO g c none oN := ⟨_, fun _ _ => po_none, fun _ => so_none⟩
theorem eo_some (h : EE g c e m) : EO g c (some e) (oS m) := by
  obtain ⟨t, h1, h2⟩ := h
  exact ⟨_, fun X hX => po_some (h1 X hX), fun A => so_some (h2 A)⟩
theorem ee_sl {lo hi : Option Expr} {ml mh : M (Option Int)} (h : EE g c a ma) (hl : EO g c lo ml) (hh : EO g c hi mh) : EE g c (.Subscript a (.Slice lo hi none p2) pos) (eSl ma ml mh) := by
  obtain ⟨t, h1, h2⟩ := h
  obtain ⟨u, h3, h4⟩ := hl
  obtain ⟨v, h5, h6⟩ := hh
  refine ⟨tSl (rSlAny g.K) t u v, fun X hX => ?_, fun A => sx_sl (h2 A) (h4 A) (h6 A)⟩
  rw [← hX.eK]
  exact pe_slice sl_any (h1 X hX) (h3 X hX) (h5 X hX)
end

/-! ### built-in functions by values -/
theorem CallR.or' {X : Cx} {f : Value} {r r' : List V → Hp → VK → Prop} (h : CallR X f r) (h' : CallR X f r') : CallR X f (fun xs H Q => r xs H Q ∨ r' xs H Q) := by
  intro pins s σ H xs us Q I rs q
  rcases q with q | q
  · exact h pins s σ H xs us Q I rs q
  · exact h' pins s σ H xs us Q I rs q
def lenD : List D → Option Vl
  | [.str x] => if small x.length = true then some (.im (.int x.length)) else none
  | [.lst ds] => some (.im (.int ds.length))
  | [.tup ds] => some (.im (.int ds.length))
  | [.sc ns] => some (.im (.int ns.length))
  | _ => none
theorem ca_len {g : G0} : CaI g (.builtin "len") lenD := by
  refine ⟨fun xs H Q => ∃ x n, xs = [x] ∧ LenV g.K x H n ∧ Q (.int n) H, fun c X hX => by rw [← hX.eK]; exact call_len, fun A B H vs env xs ds res Q S rr e q => ?_⟩
  unfold lenD at e
  split at e
  · split at e
    · rename_i hs
      cases e
      obtain ⟨x, rfl, r1⟩ := pr1 rr
      obtain ⟨e1, _⟩ := r1.str
      exact ⟨x, _, rfl, by rw [e1]; exact ⟨of_decide_eq_true hs, rfl⟩, q B H _ (Same.refl _) (.im S (.int _))⟩
    · cases e
  · cases e
    obtain ⟨x, rfl, r1⟩ := pr1 rr
    obtain ⟨a, us, rfl, ha, ra⟩ := r1.lst S.same
    exact ⟨_, _, rfl, .inl ⟨us, .of ha, ra.length⟩, q B H _ (Same.refl _) (.im S (.int _))⟩
  · cases e
    obtain ⟨x, rfl, r1⟩ := pr1 rr
    obtain ⟨a, us, rfl, ha, _, ra⟩ := r1.tup S.same
    exact ⟨_, _, rfl, .inr ⟨us, .of ha, ra.length⟩, q B H _ (Same.refl _) (.im S (.int _))⟩
  · cases e
    obtain ⟨x, rfl, r1⟩ := pr1 rr
    obtain ⟨a, rfl, ha⟩ := r1.sc S.same
    exact ⟨_, _, rfl, .inl ⟨_, ha, by rw [List.length_map]⟩, q B H _ (Same.refl _) (.im S (.int _))⟩
  · cases e
def absD : List D → Option Vl
  | [.int i] => some (.im (.int (if i < 0 then -i else i)))
  | _ => none
theorem ca_abs {g : G0} : CaI g (.builtin "abs") absD := by
  refine ⟨_, fun c X hX => call_abs, fun A B H vs env xs ds res Q S rr e q => ?_⟩
  unfold absD at e
  split at e
  · cases e
    obtain ⟨x, rfl, r1⟩ := pr1 rr
    exact ⟨_, by rw [r1.int], q B H _ (Same.refl _) (.im S (.int _))⟩
  · cases e
def maxD : List D → Option Vl
  | [.int i, .int j] => some (.im (.int (if j > i then j else i)))
  | _ => none
theorem ca_max {g : G0} : CaI g (.builtin "max") maxD := by
  refine ⟨_, fun c X hX => call_max2 hX.calm, fun A B H vs env xs ds res Q S rr e q => ?_⟩
  unfold maxD at e
  split at e
  · cases e
    obtain ⟨x, y, rfl, r1, r2⟩ := pr2 rr
    exact ⟨_, _, by rw [r1.int, r2.int], q B H _ (Same.refl _) (.im S (.int _))⟩
  · cases e
def minD : List D → Option Vl
  | [.int i, .int j] => some (.im (.int (if j < i then j else i)))
  | _ => none
theorem ca_min {g : G0} : CaI g (.builtin "min") minD := by
  refine ⟨_, fun c X hX => call_min2 hX.calm, fun A B H vs env xs ds res Q S rr e q => ?_⟩
  unfold minD at e
  split at e
  · cases e
    obtain ⟨x, y, rfl, r1, r2⟩ := pr2 rr
    exact ⟨_, _, by rw [r1.int, r2.int], q B H _ (Same.refl _) (.im S (.int _))⟩
  · cases e
def intD : List D → Option Vl
  | [.int i] => some (.im (.int i))
  | [.bl b] => some (.im (.int (if b then 1 else 0)))
  | _ => none
theorem ca_int {g : G0} : CaI g (.type "int") intD := by
  refine ⟨_, fun c X hX => call_int1, fun A B H vs env xs ds res Q S rr e q => ?_⟩
  unfold intD at e
  split at e
  · cases e
    obtain ⟨x, rfl, r1⟩ := pr1 rr
    exact .inl ⟨_, by rw [r1.int], q B H _ (Same.refl _) (.im S (.int _))⟩
  · cases e
    obtain ⟨x, rfl, r1⟩ := pr1 rr
    exact .inr ⟨_, by rw [r1.bl], q B H _ (Same.refl _) (.im S (.int _))⟩
  · cases e
def intsD : List D → Option (List Int)
  | [] => some []
  | .int i :: ds => (intsD ds).map (i :: ·)
  | _ => none
def blsD : List D → Option (List Bool)
  | [] => some []
  | .bl i :: ds => (blsD ds).map (i :: ·)
  | _ => none
def strsD : List D → Option (List Str)
  | [] => some []
  | .str i :: ds => (strsD ds).map (i :: ·)
  | _ => none
theorem intsD_map : ∀ {ds : List D} {ns : List Int}, intsD ds = some ns → ds = ns.map D.int
  | [], _, h => by
    cases h
    rfl
  | d :: ds, ns, h => by
    unfold intsD at h
    split at h
    · rename_i heq
      cases heq
    · rename_i i es heq
      cases heq
      cases hs : intsD ds with
      | none =>
        rw [hs] at h
        cases h
      | some ms =>
        rw [hs] at h
        cases h
        rw [List.map_cons, intsD_map hs]
    · cases h
theorem blsD_map : ∀ {ds : List D} {ns : List Bool}, blsD ds = some ns → ds = ns.map D.bl
  | [], _, h => by
    cases h
    rfl
  | d :: ds, ns, h => by
    unfold blsD at h
    split at h
    · rename_i heq
      cases heq
    · rename_i i es heq
      cases heq
      cases hs : blsD ds with
      | none =>
        rw [hs] at h
        cases h
      | some ms =>
        rw [hs] at h
        cases h
        rw [List.map_cons, blsD_map hs]
    · cases h
theorem strsD_map : ∀ {ds : List D} {ns : List Str}, strsD ds = some ns → ds = ns.map D.str
  | [], _, h => by
    cases h
    rfl
  | d :: ds, ns, h => by
    unfold strsD at h
    split at h
    · rename_i heq
      cases heq
    · rename_i i es heq
      cases heq
      cases hs : strsD ds with
      | none =>
        rw [hs] at h
        cases h
      | some ms =>
        rw [hs] at h
        cases h
        rw [List.map_cons, strsD_map hs]
    · cases h
theorem intsD_ints : ∀ ns : List Int, intsD (ns.map D.int) = some ns
  | [] => rfl
  | n :: ns => by
    show (intsD (ns.map D.int)).map (n :: ·) = _
    rw [intsD_ints ns]
    rfl
theorem blsD_bls : ∀ ns : List Bool, blsD (ns.map D.bl) = some ns
  | [] => rfl
  | n :: ns => by
    show (blsD (ns.map D.bl)).map (n :: ·) = _
    rw [blsD_bls ns]
    rfl
theorem strsD_strs : ∀ ns : List Str, strsD (ns.map D.str) = some ns
  | [] => rfl
  | n :: ns => by
    show (strsD (ns.map D.str)).map (n :: ·) = _
    rw [strsD_strs ns]
    rfl
def sumD : List D → Option Vl
  | [.lst ds] => (intsD ds).map fun ns => .im (.int ns.sum)
  | _ => none
theorem ca_sum {g : G0} : CaI g (.builtin "sum") sumD := by
  refine ⟨rSum g.K, fun c X hX => by rw [← hX.eK]; exact cr_sum hX.calm, fun A B H vs env xs ds res Q S rr e q => ?_⟩
  unfold sumD at e
  split at e
  · rename_i es
    cases hs : intsD es with
    | none =>
      rw [hs] at e
      cases e
    | some ns =>
      rw [hs] at e
      cases e
      obtain ⟨x, rfl, r1⟩ := pr1 rr
      obtain ⟨a, us, rfl, ha, ra⟩ := r1.lst S.same
      rw [intsD_map hs] at ra
      rw [ra.ints] at ha
      exact ⟨a, ns, rfl, .of ha, q B H _ (Same.refl _) (.im S (.int _))⟩
  · cases e
def allD : List D → Option Vl
  | [.lst ds] => (blsD ds).map fun ns => .im (.bl (ns.all id))
  | _ => none
theorem ca_all {g : G0} : CaI g (.builtin "all") allD := by
  refine ⟨rAll g.K, fun c X hX => by rw [← hX.eK]; exact cr_all hX.calm, fun A B H vs env xs ds res Q S rr e q => ?_⟩
  unfold allD at e
  split at e
  · rename_i es
    cases hs : blsD es with
    | none =>
      rw [hs] at e
      cases e
    | some ns =>
      rw [hs] at e
      cases e
      obtain ⟨x, rfl, r1⟩ := pr1 rr
      obtain ⟨a, us, rfl, ha, ra⟩ := r1.lst S.same
      rw [blsD_map hs] at ra
      rw [ra.bls] at ha
      exact ⟨a, ns, rfl, .of ha, q B H _ (Same.refl _) (.im S (.bl _))⟩
  · cases e
def anyD : List D → Option Vl
  | [.lst ds] => (blsD ds).map fun ns => .im (.bl (ns.any id))
  | _ => none
theorem ca_any {g : G0} : CaI g (.builtin "any") anyD := by
  refine ⟨rAny g.K, fun c X hX => by rw [← hX.eK]; exact cr_any hX.calm, fun A B H vs env xs ds res Q S rr e q => ?_⟩
  unfold anyD at e
  split at e
  · rename_i es
    cases hs : blsD es with
    | none =>
      rw [hs] at e
      cases e
    | some ns =>
      rw [hs] at e
      cases e
      obtain ⟨x, rfl, r1⟩ := pr1 rr
      obtain ⟨a, us, rfl, ha, ra⟩ := r1.lst S.same
      rw [blsD_map hs] at ra
      rw [ra.bls] at ha
      exact ⟨a, ns, rfl, .of ha, q B H _ (Same.refl _) (.im S (.bl _))⟩
  · cases e
def listD : List D → Option Vl
  | [.lst ds] => some (.fr (.lst ds))
  | [.tup ds] => some (.fr (.lst ds))
  | _ => none
theorem ca_list {g : G0} : CaI g (.type "list") listD := by
  refine ⟨fun xs H Q => ∃ p ys, xs = [.ref p] ∧ (SqL g.K H p ys ∨ SqT g.K H p ys) ∧ ∀ l, H l = none → Q (.ref l) (upd H l (.lst ys)), fun c X hX => by rw [← hX.eK]; exact call_list_of, fun A B H vs env xs ds res Q S rr e q => ?_⟩
  unfold listD at e
  split at e
  · cases e
    obtain ⟨x, rfl, r1⟩ := pr1 rr
    obtain ⟨a, us, rfl, ha, ra⟩ := r1.lst S.same
    exact ⟨a, us, rfl, .inl (.of ha), fun l hl => q B _ _ (Same.refl _) (.lst S hl ra)⟩
  · cases e
    obtain ⟨x, rfl, r1⟩ := pr1 rr
    obtain ⟨a, us, rfl, ha, _, ra⟩ := r1.tup S.same
    exact ⟨a, us, rfl, .inr (.of ha), fun l hl => q B _ _ (Same.refl _) (.lst S hl ra)⟩
  · cases e
def tupleD : List D → Option Vl
  | [.lst ds] => some (.im (.tup ds))
  | [.tup ds] => some (.im (.tup ds))
  | _ => none
theorem ca_tuple {g : G0} : CaI g (.type "tuple") tupleD := by
  refine ⟨fun xs H Q => ∃ p ys, xs = [.ref p] ∧ ((SqL g.K H p ys ∧ ∀ l, H l = none → Q (.ref l) (upd H l (.tup ys))) ∨ (SqT g.K H p ys ∧ Q (.ref p) H)), fun c X hX => by rw [← hX.eK]; exact call_tuple_of, fun A B H vs env xs ds res Q S rr e q => ?_⟩
  unfold tupleD at e
  split at e
  · cases e
    obtain ⟨x, rfl, r1⟩ := pr1 rr
    obtain ⟨a, us, rfl, ha, ra⟩ := r1.lst S.same
    refine ⟨a, us, rfl, .inl ⟨.of ha, fun l hl => ?_⟩⟩
    obtain ⟨B', s', v'⟩ := VRp.tup S hl ra
    exact q B' _ _ s' v'
  · cases e
    obtain ⟨x, rfl, r1⟩ := pr1 rr
    obtain ⟨a, us, rfl, ha, ta, ra⟩ := r1.tup S.same
    exact ⟨a, us, rfl, .inr ⟨.of ha, q B H _ (Same.refl _) (.im S (.tup ta ra))⟩⟩
  · cases e

/-! ### isinstance -/
def tyN : D → Option String
  | .non => some "NoneType"
  | .bl _ => some "bool"
  | .int _ => some "int"
  | .str _ => some "str"
  | .tup _ => some "tuple"
  | .lst _ => some "list"
  | .dk _ => some "dict"
  | .dt _ => some "dict"
  | .sc _ => none
  | .ty _ => none
  | .txt _ => none
def tyIs (t n : String) : Bool := t == n || (t == "bool" && n == "int")
def knownT : List String := ["str", "int", "bool", "list", "tuple", "dict"]
theorem kit_all : (["NoneType", "bool", "int", "str", "tuple", "list", "dict"].all fun t => knownT.all fun n => kitB t n == some (tyIs t n)) = true := by decide +kernel
theorem tyN_mem {d : D} {t : String} (h : tyN d = some t) : t ∈ ["NoneType", "bool", "int", "str", "tuple", "list", "dict"] := by
  cases d <;> (unfold tyN at h; first | (cases h; simp) | cases h)
theorem kit_at {d : D} {t n : String} (h : tyN d = some t) (hn : knownT.contains n = true) : kitB t n = some (tyIs t n) := by
  have h1 := List.all_eq_true.mp kit_all t (tyN_mem h)
  have h2 := List.all_eq_true.mp h1 n (by simpa using hn)
  exact eq_of_beq h2
def tysD : List D → Option (List String)
  | [] => some []
  | .ty n :: r => (tysD r).map (n :: ·)
  | _ => none
def isiD : List D → Option Vl
  | [d, .ty n] => match tyN d with
    | some t => if knownT.contains n = true then some (.im (.bl (tyIs t n))) else none
    | none => none
  | [d, .tup ns] => match tyN d, tysD ns with
    | some t, some ms => if (ms.all fun n => knownT.contains n) = true then some (.im (.bl (ms.any fun n => tyIs t n))) else none
    | _, _ => none
  | _ => none
section
variable {K : PySem.W.Frag} {B H : Hp}
theorem Rr.tyx {d : D} {v : V} {t : String} (s : Same B H) (h : Rr K B H d v) (e : tyN d = some t) : TyX K H v (.type t) := by
  cases d with
  | non => cases e; rw [h.non]; exact .base .non
  | bl b => cases e; rw [h.bl]; exact .base (.bl b)
  | int i => cases e; rw [h.int]; exact .base (.int i)
  | str x => cases e; rw [h.str.1]; exact .base (.str x)
  | tup ds =>
    cases e
    obtain ⟨a, xs, rfl, ha, _⟩ := h.tup s
    exact .base (.tup ha)
  | lst ds =>
    cases e
    obtain ⟨a, xs, rfl, ha, _⟩ := h.lst s
    exact .base (.lst ha)
  | dk es =>
    cases e
    obtain ⟨a, xs, rfl, ha, _⟩ := h.dk s
    exact .base (.dK ha)
  | dt es =>
    cases e
    obtain ⟨a, xs, rfl, ha, _⟩ := h.dt s
    exact .base (.dT ha)
  | sc ns => cases e
  | ty n => cases e
  | txt x => cases e
theorem Rps.tys : ∀ {ds : List D} {vs : List V} {ns : List String}, Rps K B ds vs → tysD ds = some ns → Paired ClsV vs (ns.map Value.type)
  | _, _, ns, .nil, e => by
    cases e
    exact .nil
  | d :: ds, v :: vs, ns, .cons h r, e => by
    unfold tysD at e
    split at e
    · rename_i heq
      cases heq
    · rename_i n es heq
      cases heq
      cases hs : tysD ds with
      | none =>
        rw [hs] at e
        cases e
      | some ms =>
        rw [hs] at e
        cases e
        cases h
        exact .cons (.ty n) (Rps.tys r hs)
    · cases e
end
theorem kitAny_of {K : PySem.W.Frag} {d : D} {t : String} (h : tyN d = some t) : ∀ {ns : List String}, (ns.all fun n => knownT.contains n) = true → PySem.W.kitAny K (.type t) (ns.map Value.type) = some (ns.any fun n => tyIs t n)
  | [], _ => rfl
  | n :: ns, hn => by
    have hn : knownT.contains n = true ∧ (ns.all fun n => knownT.contains n) = true := by simpa using hn
    refine kitAny_cons (kit_ty (kit_at h hn.1)) (fun z => ?_) (fun z => ?_)
    · rw [List.any_cons, z, Bool.false_or]
      exact kitAny_of h hn.2
    · rw [List.any_cons, z]
      rfl
theorem ca_isi {g : G0} : CaI g (.builtin "isinstance") isiD := by
  refine ⟨fun xs H Q => rIsi g.K xs H Q ∨ rIsiT g.K xs H Q, fun c X hX => by rw [← hX.eK]; exact CallR.or' call_isi call_isiT, fun A B H vs env xs ds res Q S rr e q => ?_⟩
  unfold isiD at e
  split at e
  · rename_i d n
    split at e
    · rename_i t ht
      split at e
      · rename_i hn
        cases e
        obtain ⟨x, y, rfl, r1, r2⟩ := pr2 rr
        exact .inl ⟨x, y, .type t, .type n, _, rfl, by rw [r2.ty]; exact .ty n, r1.tyx S.same ht, kit_ty (kit_at ht hn), q B H _ (Same.refl _) (.im S (.bl _))⟩
      · cases e
    · cases e
  · rename_i d es
    split at e
    · rename_i t ms ht hm
      split at e
      · rename_i hn
        cases e
        obtain ⟨x, y, rfl, r1, r2⟩ := pr2 rr
        obtain ⟨a, us, rfl, ha, _, ra⟩ := r2.tup S.same
        exact .inr ⟨x, a, us, .type t, _, _, rfl, ha, ra.tys hm, r1.tyx S.same ht, kitAny_of ht hn, q B H _ (Same.refl _) (.im S (.bl _))⟩
      · cases e
    · cases e
  · cases e
/-- a built-in class as a value -/
theorem ee_ty {g : G0} {c : Ct} {x : Str} {n : String} {pos : Pos} (hg : GlC c x) (hm : g.mg x = none) (hv : bootBuiltins x = some (.type n)) (hn : x ≠ "__name__") (hdb : (x == ("__debug__" : Str)) = false) : EE g c (.Name x pos) (eC (.ty n)) :=
  ⟨tC (.ty n), fun X hX => pe_bltn (gl_of hX hg) (by rw [hX.em]; exact hm) hv rfl hn hdb, fun _ => sx_con fun _ => .ty n⟩

/-! ### texts, sign by sign; enumerate, zip of lists -/
def chD (x : Str) : List D := x.cps.toList.map fun c => D.str ⟨#[c]⟩
def mStr (m : M Vl) : M (List D) := bd m fun r e => match r with
  | .im (.str x) => some (chD x, e)
  | _ => none
section
variable {K : PySem.W.Frag} {A : Anc}
theorem wd_str {B0 : Hp} {x : Str} (ho : PyData.strOk x = true) : WD K (Its x) B0 (chD x) := by
  have hl : (chD x).length = x.cps.size := by simp [chD]
  refine ⟨fun i H B hi _ _ => ?_, fun H B _ _ => ?_, fun i H B v H' hi _ _ y => ?_⟩
  · exact walk_str.goes i H (by omega) trivial
  · rw [hl]
    exact walk_str.stops H trivial
  · obtain ⟨e1, c, h1, h2⟩ := walk_str.yields i H v H' (by omega) trivial y
    have h3 : x.cps.toList[i]? = some c := by simpa using h1
    refine ⟨.str ⟨#[c]⟩, by simp [chD, h1], .inl ⟨e1, ?_⟩⟩
    rw [h2]
    exact .str _ (ok_sub (l := [c]) ho fun c' hc' => by
      rw [List.mem_singleton.mp hc']
      exact List.mem_of_getElem? h3)
theorem si_str {t : TE} {m : M Vl} (h : SEX K A t m) : SIX K A (iStr t) (mStr m) := fun σ τ B H env pe env' ds R S hl e q => by
  obtain ⟨r, e1, he, e⟩ := bd_inv e
  split at e
  · rename_i x
    cases e
    refine h σ τ B H env pe _ _ _ S hl he fun B1 H1 v s1 hl1 hv => ?_
    obtain ⟨S1, rr⟩ := hv
    cases rr with
    | str _ ho => exact ⟨x, rfl, q B1 H1 _ s1 hl1 S1 (wd_str ho)⟩
  · cases e
theorem ei_str {g : G0} {c : Ct} {tg e : Expr} {m : M Vl} (h : EE g c e m) : EI g c tg e (mStr m) := by
  obtain ⟨t, h1, h2⟩ := h
  exact ⟨_, fun X hX => pi_str (h1 X hX), fun A => si_str (h2 A)⟩
end
end PD
namespace PD
open PySem PySem.Spec PyProof.Rows L2

/-! ### repr -/
mutual
def D.wt : D → Nat
  | .non => 4
  | .bl _ => 5
  | .int _ => 2000
  | .str x => 10 * x.length + 2
  | .tup ds => wts ds + 4
  | .lst ds => wts ds + 4
  | _ => 0
def wts : List D → Nat
  | [] => 0
  | d :: ds => d.wt + 2 + wts ds
end
def intB (i : Int) : Bool := decide (i.natAbs.log2 < 1920)
mutual
def D.shw : D → Bool
  | .non => true
  | .bl _ => true
  | .int i => intB i
  | .str _ => true
  | .tup ds => shws ds
  | .lst ds => shws ds
  | _ => false
def shws : List D → Bool
  | [] => true
  | d :: ds => d.shw && shws ds
end
mutual
theorem shw_py : ∀ {d : D}, d.shw = true → d.py.showable = true ∧ d.isPy = true
  | .non, _ => by simp [D.py, PyData.showable, D.isPy]
  | .bl b, _ => by simp [D.py, PyData.showable, D.isPy]
  | .int i, h => by
    have h : i.natAbs.log2 < 1920 := by simpa [D.shw, intB] using h
    simp [D.py, PyData.showable, D.isPy, h]
  | .str x, _ => by simp [D.py, PyData.showable, D.isPy]
  | .tup ds, h => by
    have := shws_py (ds := ds) (by simpa [D.shw] using h)
    simp [D.py, PyData.showable, D.isPy, this]
  | .lst ds, h => by
    have := shws_py (ds := ds) (by simpa [D.shw] using h)
    simp [D.py, PyData.showable, D.isPy, this]
  | .dk _, h => by simp [D.shw] at h
  | .dt _, h => by simp [D.shw] at h
  | .sc _, h => by simp [D.shw] at h
  | .ty _, h => by simp [D.shw] at h
  | .txt _, h => by simp [D.shw] at h
theorem shws_py : ∀ {ds : List D}, shws ds = true → PyData.showableAll (pys ds) = true ∧ arePy ds = true
  | [], _ => by simp [pys, PyData.showableAll, arePy]
  | d :: ds, h => by
    have h : d.shw = true ∧ shws ds = true := by simpa [shws] using h
    have h1 := shw_py h.1
    have h2 := shws_py h.2
    simp [pys, PyData.showableAll, arePy, h1, h2]
end
theorem len_app (x y : Str) : (x ++ y).length = x.length + y.length := by
  show (x.cps ++ y.cps).size = _
  rw [Array.size_append]
  rfl
theorem textFrom_le : ∀ (ts : List Str) (k : Nat) (acc : Str), (textFrom k acc ts).length ≤ acc.length + (ts.map fun t => t.length + 2).sum
  | [], k, acc => by
    show acc.length ≤ _
    omega
  | t :: r, k, acc => by
    have ih := textFrom_le r (k + 1) (acc ++ (if k > 0 then ", " else "" : String) ++ t)
    have e : (acc ++ (if k > 0 then ", " else "" : String) ++ t : Str).length ≤ acc.length + 2 + t.length := by
      rw [len_app, len_app]
      have : (Str.ofString (if k > 0 then ", " else "")).length ≤ 2 := by
        split <;> decide +kernel
      omega
    show (textFrom (k + 1) _ r).length ≤ _
    rw [List.map_cons, List.sum_cons]
    omega
theorem joinS_le : ∀ ts : List Str, (Str.join ", " ts).length ≤ (ts.map fun t => t.length + 2).sum
  | [] => by
    show (Str.join ", " []).length ≤ 0
    decide +kernel
  | x :: r => by
    have h := join_length_add (x :: r) (by simp)
    have p : piled (x :: r) = ((x :: r).map fun t => t.length + 2).sum := rfl
    rw [p] at h
    omega
theorem int_len (i : Int) (h : i.natAbs.log2 < 1920) : (Str.ofString (toString i)).length ≤ 2000 := by
  have e := int_text_length_le (k := 1920) (by decide) h
  rw [PySem.ofString_length]
  omega
mutual
theorem shown_le : ∀ {d : D} {K : PySem.W.Frag} {B : Hp} {v : V}, d.shw = true → Rp K B d v → d.py.shown.length ≤ d.wt
  | .non, _, _, _, _, _ => by simp only [D.py, PyData.shown, D.wt]; decide +kernel
  | .bl b, _, _, _, _, _ => by
    simp only [D.py, PyData.shown, D.wt]
    cases b <;> decide +kernel
  | .int i, _, _, _, h, _ => by
    simp only [D.py, PyData.shown, D.wt]
    exact int_len i (by simpa [D.shw, intB] using h)
  | .str x, _, _, _, _, r => by
    simp only [D.py, PyData.shown, D.wt]
    cases r with
    | str _ ho => exact StrLaws.reprText_len x fun c hc => Nat.lt_of_lt_of_le (ok_mem.mp ho c hc) (by decide)
  | .tup ds, _, _, _, h, r => by
    simp only [D.py, PyData.shown, D.wt]
    cases r with
    | tup _ rr =>
      have := showns_le (ds := ds) (by simpa [D.shw] using h) rr
      unfold tupleText
      rw [len_app, len_app]
      have j := joinS_le (PyData.shownAll (pys ds))
      have e1 : (Str.ofString "(").length = 1 := by decide +kernel
      have e2 : (Str.ofString (if (PyData.shownAll (pys ds)).length == 1 then ",)" else ")")).length ≤ 2 := by
        split <;> decide +kernel
      omega
  | .lst ds, _, _, _, h, r => by
    simp only [D.py, PyData.shown, D.wt]
    cases r with
    | lst _ rr =>
      have := showns_le (ds := ds) (by simpa [D.shw] using h) rr
      unfold listText
      rw [len_app]
      have j := textFrom_le (PyData.shownAll (pys ds)) 0 (Str.ofString "[")
      have e1 : (Str.ofString "[").length = 1 := by decide +kernel
      have e2 : (Str.ofString "]").length = 1 := by decide +kernel
      omega
  | .dk _, _, _, _, h, _ => by simp [D.shw] at h
  | .dt _, _, _, _, h, _ => by simp [D.shw] at h
  | .sc _, _, _, _, h, _ => by simp [D.shw] at h
  | .ty _, _, _, _, h, _ => by simp [D.shw] at h
  | .txt _, _, _, _, h, _ => by simp [D.shw] at h
theorem showns_le : ∀ {ds : List D} {K : PySem.W.Frag} {B : Hp} {vs : List V}, shws ds = true → Rps K B ds vs → ((PyData.shownAll (pys ds)).map fun t => t.length + 2).sum ≤ wts ds
  | [], _, _, _, _, _ => by simp [pys, PyData.shownAll, wts]
  | d :: ds, _, _, _, h, .cons r1 r2 => by
    have h : d.shw = true ∧ shws ds = true := by simpa [shws] using h
    have h1 := shown_le h.1 r1
    have h2 := showns_le h.2 r2
    simp only [pys, PyData.shownAll, wts, List.map_cons, List.sum_cons]
    omega
end

/-- repr(x) -/
def reprD : List D → Option Vl
  | [d] => if (d.shw && small d.wt && depB 60 d) = true then some (.im (.txt d.py.shown)) else none
  | _ => none
def rRepr (K : PySem.W.Frag) : List V → Hp → VK → Prop := fun xs H Q => ∃ x d, xs = [x] ∧ Dp K H x d ∧ d.showable = true ∧ d.canLay0 = true ∧ d.shown.length ≤ sizeLine ∧ d.depth ≤ 60 ∧ Q (.str d.shown) H
theorem call_reprD {X : Cx} {k : Nat} (hr : Room k X.A) (hg : X.A.guards = some []) : CallR X (.builtin "repr") (rRepr X.K) := by
  intro pins s σ H xs us Q I r h
  obtain ⟨x, d, rfl, hd, sh, lay, sz, dep, q⟩ := h
  obtain ⟨u, rfl, ru⟩ := vals1 r
  cases hd with
  | non =>
    cases ru
    simp only [PyData.shown] at q sz
    exact call_repr_gives (PySem.typeIs_none s) F.slot_NoneType_repr F.entry_NoneType_repr (F.args_NoneType_repr_1 _) gives_none_repr ⟨.str _, H, I.tok _, ⟨_, rfl⟩, q⟩ (hx := sz)
  | bl b =>
    cases ru
    simp only [PyData.shown] at q sz
    exact call_repr_gives (PySem.typeIs_bool s b) F.slot_bool_repr F.entry_bool_repr (F.args_bool_repr_1 _) (gives_bool_repr b) ⟨.str _, H, I.tok _, ⟨_, rfl⟩, q⟩ (hx := sz)
  | int i =>
    obtain ⟨t, rfl⟩ := ru
    simp only [PyData.shown] at q sz
    exact PySem.P.repr_of_int (by simpa [PyData.showable] using sh) ⟨.str _, H, I.tok _, ⟨_, rfl⟩, q⟩
  | str z =>
    obtain ⟨t, rfl⟩ := ru
    simp only [PyData.shown] at q sz
    exact call_repr_gives (PySem.typeIs_str s z t) F.slot_str_repr F.entry_str_repr (F.args_str_repr_1 _) (gives_str_repr z t) ⟨.str _, H, I.tok _, ⟨_, rfl⟩, q⟩ (hx := sz)
  | lst hs ha =>
    cases ru
    obtain ⟨as, rd⟩ := Dp.reads I _ _ _ (Dp.lst hs ha) rfl
    refine repr_of_reads' rd sh (PyData.noDict_hsm (PyData.hasDict_of_canLay _ lay)) hg (by have := hr.un; omega) (fun _ _ e => e) (fun h' u tk hk => ?_) sz
    exact ⟨.str _, H, I.kept (t' := tk) hk, ⟨u, rfl⟩, q⟩
  | tup hs ha =>
    cases ru
    obtain ⟨as, rd⟩ := Dp.reads I _ _ _ (Dp.tup hs ha) rfl
    refine repr_of_reads' rd sh (PyData.noDict_hsm (PyData.hasDict_of_canLay _ lay)) hg (by have := hr.un; omega) (fun _ _ e => e) (fun h' u tk hk => ?_) sz
    exact ⟨.str _, H, I.kept (t' := tk) hk, ⟨u, rfl⟩, q⟩
theorem listText_le {ds : List D} (h : ((PyData.shownAll (pys ds)).map fun t => t.length + 2).sum ≤ wts ds) : (listText (PyData.shownAll (pys ds))).length ≤ wts ds + 4 := by
  unfold listText
  rw [len_app]
  have j := textFrom_le (PyData.shownAll (pys ds)) 0 (Str.ofString "[")
  have e1 : (Str.ofString "[").length = 1 := by decide +kernel
  have e2 : (Str.ofString "]").length = 1 := by decide +kernel
  omega
theorem shown_leR {K : PySem.W.Frag} {B H : Hp} {d : D} {v : V} (h : d.shw = true) (r : Rr K B H d v) : d.py.shown.length ≤ d.wt := by
  cases r with
  | fz r => exact shown_le h r
  | ct c =>
    rename_i p
    generalize e : H p = o at c
    cases c with
    | @lst xs ds r =>
      simp only [D.py, PyData.shown, D.wt]
      exact listText_le (showns_le (by simpa [D.shw] using h) r)
    | dk _ _ => simp [D.shw] at h
    | dt _ _ => simp [D.shw] at h
theorem ca_repr {g : G0} : CaI g (.builtin "repr") reprD := by
  refine ⟨rRepr g.K, fun c X hX => by rw [← hX.eK]; exact call_reprD hX.room hX.gu, fun A B H vs env xs ds res Q S rr e q => ?_⟩
  unfold reprD at e
  split at e
  · rename_i d
    split at e
    · rename_i hd
      cases e
      simp only [Bool.and_eq_true] at hd
      obtain ⟨⟨h1, h2⟩, h3⟩ := hd
      obtain ⟨x, rfl, r⟩ := pr1 rr
      exact ⟨x, d.py, rfl, r.dp S.same (shw_py h1).2, (shw_py h1).1, r.lay, Nat.le_trans (shown_leR h1 r) (of_decide_eq_true h2), of_decide_eq_true h3, q B H _ (Same.refl _) (.im S (.txt _))⟩
    · cases e
  · cases e
end PD
namespace PD
open PySem PySem.Spec PyProof.Rows L2

/-! ### methods that read -/
def mth (r : V → List V → Hp → VK → Prop) : List V → Hp → VK → Prop := fun xs H Q => match xs with
  | x :: ys => r x ys H Q
  | [] => False
/-- d is of the class T, and its methods are looked up there -/
def tyT (T : String) : D → Bool
  | .str _ => T == "str"
  | .lst _ => T == "list"
  | .sc _ => T == "list"
  | .dk _ => T == "dict"
  | .dt _ => T == "dict"
  | _ => false
theorem tyT_ok {K : PySem.W.Frag} {B H : Hp} {T : String} {d : D} {v : V} (s : Same B H) (h : tyT T d = true) (r : Rr K B H d v) : tyV K T v H := by
  cases d with
  | str x =>
    rw [r.str.1]
    exact eq_of_beq h
  | lst ds =>
    obtain ⟨a, xs, rfl, ha, _⟩ := r.lst s
    exact .inl ⟨eq_of_beq h, xs, .of ha⟩
  | sc ns =>
    obtain ⟨a, rfl, ha⟩ := r.sc s
    exact .inl ⟨eq_of_beq h, _, ha⟩
  | dk es =>
    obtain ⟨a, xs, rfl, ha, _⟩ := r.dk s
    exact .inr (.inr (.inl ⟨eq_of_beq h, .inl ⟨_, ha⟩⟩))
  | dt es =>
    obtain ⟨a, xs, rfl, ha, _⟩ := r.dt s
    exact .inr (.inr (.inl ⟨eq_of_beq h, .inr ⟨_, ha⟩⟩))
  | _ => cases h
def ckT (T : String) (r : Vl) : M Unit := fun e => match cnt e r with
  | some d => if tyT T d = true then some ((), e) else none
  | none => none
def eM (T : String) (f : List D → Option Vl) (m : M Vl) (ms : M (List Vl)) : M Vl := bd m fun r => bd (ckT T r.hold) fun _ => bd ms fun rs e => match cnts e (r.hold :: rs) with
  | some ds => match f ds with
    | some (.im d) => some (.im d, e)
    | some (.fr d) => some (.fr d, e)
    | _ => none
  | none => none
section
variable {K : PySem.W.Frag} {A : Anc}
theorem ckT_inv {T : String} {r : Vl} {e e' : Env} {u : Unit} (h : ckT T r e = some (u, e')) : ∃ d, cnt e r = some d ∧ tyT T d = true ∧ e' = e := by
  unfold ckT at h
  split at h
  · rename_i d hd
    split at h
    · rename_i ht
      cases h
      exact ⟨d, hd, ht, rfl⟩
    · cases h
  · cases h
theorem sx_meth {T : String} {r : V → List V → Hp → VK → Prop} {f : List D → Option Vl} {to : TE} {ta : TA} {m : M Vl} {ms : M (List Vl)} (hp : PrS K (mth r) f) (ho : SEX K A to m) (ha : SAX K A ta ms) : SEX K A (tBM K T r to ta) (eM T f m ms) := fun σ τ B H env pe env' res Q S hl e q => by
  obtain ⟨r0, e2, h1, f1⟩ := bd_inv e
  obtain ⟨u, e2', h2, f2⟩ := bd_inv f1
  obtain ⟨d, hd, ht, he⟩ := ckT_inv h2
  rw [he] at f2
  obtain ⟨rs, e3, h3, f3⟩ := bd_inv f2
  clear e f1 f2 h2
  refine ho σ τ B H env pe e2 r0 _ S hl h1 fun B1 H1 v s1 hl1 hv => ?_
  obtain ⟨B2, s2, S2, hh⟩ := hv.held
  refine ⟨tyT_ok S2.same ht (hh.rr S2 hl1 hd), ?_⟩
  refine ha σ τ B2 H1 e2 pe e3 rs _ S2 hl1 h3 fun B3 H3 vs s3 hl3 S3 hr => ?_
  split at f3
  · rename_i ds hc
    have rr := Hv.rrs S3 hl3 (.cons (hh.mono s3) hr) hc
    split at f3
    · rename_i d' hf
      cases f3
      exact hp A B3 H3 (σ ++ τ) (env' ++ pe) (v :: vs) ds _ Q S3 rr hf fun B4 H4 w s4 h4 => q B4 H4 w ((s1.trans s2).trans (s3.trans s4)) hl3 h4
    · rename_i d' hf
      cases f3
      exact hp A B3 H3 (σ ++ τ) (env' ++ pe) (v :: vs) ds _ Q S3 rr hf fun B4 H4 w s4 h4 => q B4 H4 w ((s1.trans s2).trans (s3.trans s4)) hl3 h4
    · cases f3
  · cases f3
theorem sx_meth0 {T : String} {r : V → List V → Hp → VK → Prop} {f : List D → Option Vl} {to : TE} {m : M Vl} (hp : PrS K (mth r) f) (ho : SEX K A to m) : SEX K A (tBM0 K T r to) (eM T f m cN) := fun σ τ B H env pe env' res Q S hl e q =>
  sx_meth (T := T) hp ho sa_nil σ τ B H env pe env' res Q S hl e q
end
section
variable {g : G0} {c : Ct} {o e : Expr} {es : List Expr} {m : M Vl} {ms : M (List Vl)} {pos apos : Pos} {T id : String} {name : Str} {f : List D → Option Vl}
structure MeI (g : G0) (T : String) (name : Str) (id : String) (f : List D → Option Vl) : Prop where
  pa : PlainAttrs T
  slot : Slot T name id
  ty : typeOf (.builtin id) = pure (.type "method_descriptor")
  run : ∃ r : V → List V → Hp → VK → Prop, (∀ c X, Cok g c X → MtR X id r) ∧ PrS g.K (mth r) f
theorem ee_meth (M : MeI g T name id f) (h : EE g c o m) (h' : EA g c (e :: es) ms) (pl : Pl e) (hb : ∀ env : PySem.Env, attributeBase o name env (eval o env) = eval o env)
    (hf : ∀ env : PySem.Env, ((backTo pos (starEach (e :: es) env)).all (fun x => !x.1) && (backToKw pos (keywordEach [] env)).all (fun x => x.1.isSome)
      && decide ((e :: es).length + ([] : List Keyword).length + (if ([] : List Keyword).isEmpty then 0 else 1) < 30)) = true) (hl : (apos.endLine == pos.line) = true) (hp : ∀ env : PySem.Env, (backTo pos (starEach es env)).any (·.1) = false) :
    EE g c (.Call (.Attribute o name apos) (e :: es) [] pos) (eM T f m ms) := by
  obtain ⟨t1, h1, k1⟩ := h
  obtain ⟨t2, h2, k2⟩ := h'
  obtain ⟨r, hr, hpr⟩ := M.run
  exact ⟨tBM g.K T r t1 t2, fun X hX => by
    rw [← hX.eK]
    exact pe_bm M.pa M.slot M.ty (hr c X hX) (h1 X hX) (h2 X hX) (hb _) (hf _) hl (pl es X.env) (hp _), fun A => sx_meth hpr (k1 A) (k2 A)⟩
theorem ee_meth0 (M : MeI g T name id f) (h : EE g c o m) (hb : ∀ env : PySem.Env, attributeBase o name env (eval o env) = eval o env) (hl : (apos.endLine == pos.line) = true) :
    EE g c (.Call (.Attribute o name apos) [] [] pos) (eM T f m cN) := by
  obtain ⟨t1, h1, k1⟩ := h
  obtain ⟨r, hr, hpr⟩ := M.run
  exact ⟨tBM0 g.K T r t1, fun X hX => by
    rw [← hX.eK]
    exact pe_bm0 M.pa M.slot M.ty (hr c X hX) (h1 X hX) (hb _) hl, fun A => sx_meth0 hpr (k1 A)⟩

/-- x.count(y), texts -/
def countD : List D → Option Vl
  | [.str x, .str y] => some (.im (.int (Txt.count x y)))
  | _ => none
theorem me_count : MeI g "str" "count" "str.count" countD := ⟨F.plainAttrs_str, F.slot_str_count, F.type_str_count, _, fun c X hX => mt_count, fun A B H vs env xs ds res Q S rr e q => by
  unfold countD at e
  split at e
  · rename_i x y
    cases e
    obtain ⟨a, b, rfl, r1, r2⟩ := pr2 rr
    exact ⟨x, y, r1.str.1, by rw [r2.str.1], q B H _ (Same.refl _) (.im S (.int _))⟩
  · cases e⟩
/-- x.upper() -/
def upperD : List D → Option Vl
  | [.str x] => if (decide (x.length ≤ 5592405) && PyData.strOk (Txt.upper x)) = true then some (.im (.str (Txt.upper x))) else none
  | _ => none
theorem me_upper : MeI g "str" "upper" "str.upper" upperD := ⟨F.plainAttrs_str, F.slot_str_upper, F.type_str_upper, _, fun c X hX => mt_upper, fun A B H vs env xs ds res Q S rr e q => by
  unfold upperD at e
  split at e
  · rename_i x
    split at e
    · rename_i hx
      cases e
      simp only [Bool.and_eq_true] at hx
      obtain ⟨a, rfl, r1⟩ := pr1 rr
      exact ⟨x, r1.str.1, rfl, of_decide_eq_true hx.1, q B H _ (Same.refl _) (.im S (.str _ hx.2))⟩
    · cases e
  · cases e⟩
/-- x.join(y) -/
def joinD : List D → Option Vl
  | [.str x, .lst ds] => match strsD ds with
    | some ys => if (decide ((ys.map (·.length)).sum + ys.length * x.length ≤ 16777216) && PyData.strOk (Txt.join x ys)) = true then some (.im (.str (Txt.join x ys))) else none
    | none => none
  | [.str x, .tup ds] => match strsD ds with
    | some ys => if (decide ((ys.map (·.length)).sum + ys.length * x.length ≤ 16777216) && PyData.strOk (Txt.join x ys)) = true then some (.im (.str (Txt.join x ys))) else none
    | none => none
  | _ => none
theorem me_join : MeI g "str" "join" "str.join" joinD := ⟨F.plainAttrs_str, F.slot_str_join, F.type_str_join, _, fun c X hX => by
    have := @mt_join X
    rw [hX.eK] at this
    exact this, fun A B H vs env xs ds res Q S rr e q => by
  unfold joinD at e
  split at e
  · rename_i x ds
    split at e
    · rename_i ys hy
      split at e
      · rename_i hx
        cases e
        simp only [Bool.and_eq_true] at hx
        obtain ⟨a, b, rfl, r1, r2⟩ := pr2 rr
        obtain ⟨p, us, rfl, hp, ru⟩ := r2.lst S.same
        rw [strsD_map hy] at ru
        exact ⟨x, p, ys, r1.str.1, rfl, .inl (by rw [← ru.strs]; exact .of hp), of_decide_eq_true hx.1, q B H _ (Same.refl _) (.im S (.str _ hx.2))⟩
      · cases e
    · cases e
  · rename_i x ds
    split at e
    · rename_i ys hy
      split at e
      · rename_i hx
        cases e
        simp only [Bool.and_eq_true] at hx
        obtain ⟨a, b, rfl, r1, r2⟩ := pr2 rr
        obtain ⟨p, us, rfl, hp, _, ru⟩ := r2.tup S.same
        rw [strsD_map hy] at ru
        exact ⟨x, p, ys, r1.str.1, rfl, .inr (by rw [← ru.strs]; exact .inl (.inl hp)), of_decide_eq_true hx.1, q B H _ (Same.refl _) (.im S (.str _ hx.2))⟩
      · cases e
    · cases e
  · cases e⟩
end

/-! ### methods that change a list -/
def mutAtD (e : Env) (i : Nat) : Option D := match e[i]? with
  | some (.ow d) => some d
  | some (.io _ d) => some d
  | _ => none
/-- the receiver's content and the arguments: the new content, the answer -/
def eU (T : String) (f : D → List D → Option (D × D)) (m : M Vl) (ms : M (List Vl)) : M Vl := bd m fun r => match r with
  | .bo i => bd (ckT T (.bo i)) fun _ => bd ms fun rs => bd (frzs rs) fun ds e => match mutAtD e i with
    | some d0 => match f d0 ds with
      | some (d', x) => some (.im x, putC e i d')
      | none => none
    | none => none
  | _ => fun _ => none
def MuS (K : PySem.W.Frag) (r : V → List V → Hp → VK → Prop) (f : D → List D → Option (D × D)) : Prop :=
  ∀ (B H : Hp) (p : Addr) (d0 d' x : D) (ds : List D) (xs : List V) (Q : VK), Same B H → Cont K B d0 (H p) → Rps K B ds xs → f d0 ds = some (d', x) → (∀ o v, Cont K B d' (some o) → Rp K B x v → Q v (upd H p o)) → r (.ref p) xs H Q
section
variable {K : PySem.W.Frag} {A : Anc}
theorem mutAtD_at {B H : Hp} {σ τ : L2.St} {env pe : Env} {i : Nat} {d0 : D} {v : V} (S : SR K A B H (σ ++ τ) (env ++ pe)) (hl : σ.length = env.length) (h : σ[i]? = some (some v)) (m : mutAtD env i = some d0) : ∃ p, v = .ref p ∧ Cont K B d0 (H p) ∧ ∀ d' o, Cont K B d' (some o) → SR K A B (upd H p o) (σ ++ τ) (putC env i d' ++ pe) := by
  have hj := (List.getElem?_eq_some_iff.mp h).1
  unfold mutAtD at m
  split at m
  · rename_i d he
    cases m
    have hi := (List.getElem?_eq_some_iff.mp he).1
    cases S.at hl he h with
    | ow b h0 c =>
      rename_i p
      refine ⟨p, rfl, c, fun d' o cc => ?_⟩
      have := S.write (i := i) (p := p) (sl := .ow d0) (sl' := .ow d') (d := d0) (by rw [List.getElem?_append_left hi]; exact he) (.inl ⟨rfl, rfl⟩) (by rw [List.getElem?_append_left hj]; exact h) cc
      rw [List.set_append_left _ _ hi] at this
      unfold putC
      rw [he]
      exact this
  · rename_i j d he
    cases m
    have hi := (List.getElem?_eq_some_iff.mp he).1
    cases S.at hl he h with
    | io h0 c =>
      rename_i p
      refine ⟨p, rfl, c, fun d' o cc => ?_⟩
      have := S.write (i := i) (p := p) (sl := .io j d0) (sl' := .io j d') (d := d0) (by rw [List.getElem?_append_left hi]; exact he) (.inr ⟨j, rfl, rfl⟩) (by rw [List.getElem?_append_left hj]; exact h) cc
      rw [List.set_append_left _ _ hi] at this
      unfold putC
      rw [he]
      exact this
  · cases m
theorem sx_mut {T : String} {r : V → List V → Hp → VK → Prop} {f : D → List D → Option (D × D)} {to : TE} {ta : TA} {m : M Vl} {ms : M (List Vl)} (hp : MuS K r f) (ho : SEX K A to m) (ha : SAX K A ta ms) : SEX K A (tBM K T r to ta) (eU T f m ms) := fun σ τ B H env pe env' res Q S hl e q => by
  obtain ⟨r0, e2, h1, f1⟩ := bd_inv e
  cases r0 with
  | bo i =>
    dsimp only at f1
    obtain ⟨u, e2', h2, f2⟩ := bd_inv f1
    obtain ⟨d, hd, ht, he⟩ := ckT_inv h2
    rw [he] at f2
    obtain ⟨rs, e3, h3, f3⟩ := bd_inv f2
    obtain ⟨ds, e4, h4, f4⟩ := bd_inv f3
    clear e f1 f2 f3 h2
    refine ho σ τ B H env pe e2 _ _ S hl h1 fun B1 H1 v s1 hl1 hv => ?_
    obtain ⟨B2, s2, S2, hh⟩ := hv.held
    refine ⟨tyT_ok S2.same ht (hh.rr S2 hl1 hd), ?_⟩
    refine ha σ τ B2 H1 e2 pe e3 rs _ S2 hl1 h3 fun B3 H3 vs s3 hl3 S3 hr => ?_
    obtain ⟨B4, s4, S4, hl4, rr⟩ := frzs_ok S3 hl3 hr h4
    split at f4
    · rename_i d0 hm
      split at f4
      · rename_i d' x hf
        cases f4
        obtain ⟨p, rfl, c, hw⟩ := mutAtD_at S4 hl4 hh hm
        refine hp B4 H3 p d0 d' x ds vs Q S4.same c rr hf fun o w c' r' => ?_
        exact q B4 _ w ((s1.trans s2).trans (s3.trans s4)) (by rw [putC_length]; exact hl4) ⟨hw d' o c', r'⟩
      · cases f4
    · cases f4
  | im d => cases f1
  | fr d => cases f1
theorem sx_mut0 {T : String} {r : V → List V → Hp → VK → Prop} {f : D → List D → Option (D × D)} {to : TE} {m : M Vl} (hp : MuS K r f) (ho : SEX K A to m) : SEX K A (tBM0 K T r to) (eU T f m cN) := fun σ τ B H env pe env' res Q S hl e q =>
  sx_mut (T := T) hp ho sa_nil σ τ B H env pe env' res Q S hl e q
end
section
variable {g : G0} {c : Ct} {o e : Expr} {es : List Expr} {m : M Vl} {ms : M (List Vl)} {pos apos : Pos} {T id : String} {name : Str} {f : D → List D → Option (D × D)}
structure MuI (g : G0) (T : String) (name : Str) (id : String) (f : D → List D → Option (D × D)) : Prop where
  pa : PlainAttrs T
  slot : Slot T name id
  ty : typeOf (.builtin id) = pure (.type "method_descriptor")
  run : ∃ r : V → List V → Hp → VK → Prop, (∀ c X, Cok g c X → MtR X id r) ∧ MuS g.K r f
theorem ee_mut (M : MuI g T name id f) (h : EE g c o m) (h' : EA g c (e :: es) ms) (pl : Pl e) (hb : ∀ env : PySem.Env, attributeBase o name env (eval o env) = eval o env)
    (hf : ∀ env : PySem.Env, ((backTo pos (starEach (e :: es) env)).all (fun x => !x.1) && (backToKw pos (keywordEach [] env)).all (fun x => x.1.isSome)
      && decide ((e :: es).length + ([] : List Keyword).length + (if ([] : List Keyword).isEmpty then 0 else 1) < 30)) = true) (hl : (apos.endLine == pos.line) = true) (hp : ∀ env : PySem.Env, (backTo pos (starEach es env)).any (·.1) = false) :
    EE g c (.Call (.Attribute o name apos) (e :: es) [] pos) (eU T f m ms) := by
  obtain ⟨t1, h1, k1⟩ := h
  obtain ⟨t2, h2, k2⟩ := h'
  obtain ⟨r, hr, hpr⟩ := M.run
  exact ⟨tBM g.K T r t1 t2, fun X hX => by
    rw [← hX.eK]
    exact pe_bm M.pa M.slot M.ty (hr c X hX) (h1 X hX) (h2 X hX) (hb _) (hf _) hl (pl es X.env) (hp _), fun A => sx_mut hpr (k1 A) (k2 A)⟩
theorem ee_mut0 (M : MuI g T name id f) (h : EE g c o m) (hb : ∀ env : PySem.Env, attributeBase o name env (eval o env) = eval o env) (hl : (apos.endLine == pos.line) = true) :
    EE g c (.Call (.Attribute o name apos) [] [] pos) (eU T f m cN) := by
  obtain ⟨t1, h1, k1⟩ := h
  obtain ⟨r, hr, hpr⟩ := M.run
  exact ⟨tBM0 g.K T r t1, fun X hX => by
    rw [← hX.eK]
    exact pe_bm0 M.pa M.slot M.ty (hr c X hX) (h1 X hX) (hb _) hl, fun A => sx_mut0 hpr (k1 A)⟩
def lessL (n : Nat) : Bool := decide (n < sizeLine)
def appendD : D → List D → Option (D × D)
  | .lst ds, [d] => if lessL ds.length = true then some (.lst (ds ++ [d]), .non) else none
  | _, _ => none
theorem cont_lst {K : PySem.W.Frag} {B : Hp} {ds : List D} {o : Option HO} (c : Cont K B (.lst ds) o) : ∃ xs, o = some (.lst xs) ∧ Rps K B ds xs := by
  cases c with
  | lst r => exact ⟨_, rfl, r⟩
theorem rps1 {K : PySem.W.Frag} {B : Hp} {d : D} {xs : List V} (r : Rps K B [d] xs) : ∃ x, xs = [x] ∧ Rp K B d x := by
  cases r with
  | cons r t =>
    cases t
    exact ⟨_, rfl, r⟩
theorem rps2 {K : PySem.W.Frag} {B : Hp} {d e : D} {xs : List V} (r : Rps K B [d, e] xs) : ∃ x y, xs = [x, y] ∧ Rp K B d x ∧ Rp K B e y := by
  cases r with
  | cons r t =>
    obtain ⟨y, rfl, r2⟩ := rps1 t
    exact ⟨_, y, rfl, r, r2⟩
theorem mu_append : MuI g "list" "append" "list.append" appendD := ⟨F.plainAttrs_list, F.slot_list_append, F.type_list_append, _, fun c X hX => mt_append, fun B H p d0 d' x ds xs Q s c r e q => by
  unfold appendD at e
  split at e
  · rename_i ds0 d
    split at e
    · rename_i hl
      cases e
      obtain ⟨ys, hy, rr⟩ := cont_lst c
      obtain ⟨v, rfl, rv⟩ := rps1 r
      exact ⟨p, ys, v, rfl, rfl, hy, by rw [← rr.length]; exact of_decide_eq_true hl, q _ _ (.lst (rr.app (.one rv))) .non⟩
    · cases e
  · cases e⟩
def reverseD : D → List D → Option (D × D)
  | .lst ds, [] => some (.lst ds.reverse, .non)
  | _, _ => none
theorem mu_reverse : MuI g "list" "reverse" "list.reverse" reverseD := ⟨F.plainAttrs_list, F.slot_list_reverse, F.type_list_reverse, _, fun c X hX => mt_reverse, fun B H p d0 d' x ds xs Q s c r e q => by
  unfold reverseD at e
  split at e
  · cases e
    obtain ⟨ys, hy, rr⟩ := cont_lst c
    cases r
    exact ⟨p, ys, rfl, rfl, hy, q _ _ (.lst rr.rev) .non⟩
  · cases e⟩
def extendD : D → List D → Option (D × D)
  | .lst ds, [.lst es] => if small (ds.length + es.length) = true then some (.lst (ds ++ es), .non) else none
  | _, _ => none
theorem mu_extend : MuI g "list" "extend" "list.extend" extendD := ⟨F.plainAttrs_list, F.slot_list_extend, F.type_list_extend, _, fun c X hX => mt_extend, fun B H p d0 d' x ds xs Q s c r e q => by
  unfold extendD at e
  split at e
  · rename_i ds0 d
    split at e
    · rename_i hl
      cases e
      obtain ⟨ys, hy, rr⟩ := cont_lst c
      obtain ⟨v, rfl, rv⟩ := rps1 r
      cases rv with
      | lst h r2 => exact ⟨p, _, ys, _, rfl, rfl, hy, s _ _ h, by rw [← rr.length, ← r2.length]; exact of_decide_eq_true hl, q _ _ (.lst (rr.app r2)) .non⟩
    · cases e
  · cases e⟩
def popD : D → List D → Option (D × D)
  | .lst ds, [] => match ds[ds.length - 1]? with
    | some d => some (.lst ds.dropLast, d)
    | none => none
  | .lst ds, [.int i] => if (decide (-(2 ^ 63) ≤ i) && decide (i < 2 ^ 63)) = true then match seqIndex? i ds.length with
    | some k => match ds[k]? with
      | some d => some (.lst (ds.eraseIdx k), d)
      | none => none
    | none => none
    else none
  | _, _ => none
theorem mtM_or {X : Cx} {id : String} {r r' : V → List V → Hp → VK → Prop} (h : MtM X id r) (h' : MtM X id r') : MtR X id (fun x xs H Q => r x xs H Q ∨ r' x xs H Q) := MtR.or (id := id) h h'
theorem rps_dropLast {K : PySem.W.Frag} {B : Hp} : ∀ {ds : List D} {vs : List V}, Rps K B ds vs → Rps K B ds.dropLast vs.dropLast
  | _, _, .nil => .nil
  | _, _, .cons _ .nil => .nil
  | _, _, .cons r (.cons r2 t) => .cons r (rps_dropLast (.cons r2 t))
theorem mu_pop : MuI g "list" "pop" "list.pop" popD := ⟨F.plainAttrs_list, F.slot_list_pop, F.type_list_pop, _, fun c X hX => mtM_or mt_pop mt_popAt, fun B H p d0 d' x ds xs Q s c r e q => by
  unfold popD at e
  split at e
  · rename_i ds0
    split at e
    · rename_i d hd
      cases e
      obtain ⟨ys, hy, rr⟩ := cont_lst c
      cases r
      obtain ⟨v, hv, rv⟩ := rr.get hd
      exact .inl ⟨p, ys, v, rfl, rfl, hy, by rw [← rr.length]; exact hv, q _ _ (.lst (rps_dropLast rr)) rv⟩
    · cases e
  · rename_i ds0 i
    split at e
    · rename_i hi
      split at e
      · rename_i k hk
        split at e
        · rename_i d hd
          cases e
          simp only [Bool.and_eq_true, decide_eq_true_eq] at hi
          obtain ⟨ys, hy, rr⟩ := cont_lst c
          obtain ⟨v, rfl, rv⟩ := rps1 r
          cases rv
          obtain ⟨w, hw, rw'⟩ := rr.get hd
          exact .inr ⟨p, ys, i, k, w, rfl, rfl, hy, hi.1, hi.2, by rw [← rr.length]; exact hk, hw, q _ _ (.lst (rr.erase k)) rw'⟩
        · cases e
      · cases e
    · cases e
  · cases e⟩
end

/-! ### x[i] = v -/
def gS (f : D → D → D → Option D) (m mi : M Vl) : Vl → M Unit := fun r => bd (frz r.hold) fun d => bd m fun r0 => match r0 with
  | .bo i => bd mi fun r1 e => match mutAtD e i, cnt e r1.hold with
    | some d0, some k => match f d0 k d with
      | some d' => some ((), putC e i d')
      | none => none
    | _, _ => none
  | _ => fun _ => none
def PutS (K : PySem.W.Frag) (t : TSet) (f : D → D → D → Option D) : Prop :=
  ∀ (B H : Hp) (p : Addr) (k v : V) (d0 dk d d' : D) (Q : Hp → Prop), Same B H → Cont K B d0 (H p) → Rr K B H dk k → Rp K B d v → f d0 dk d = some d' → (∀ o, Cont K B d' (some o) → Q (upd H p o)) → t (.ref p) k v H Q
theorem sg_sub {K : PySem.W.Frag} {A : Anc} {to ti : TE} {t : TSet} {f : D → D → D → Option D} {m mi : M Vl} (hp : PutS K t f) (ho : SEX K A to m) (hi : SEX K A ti mi) : SGX K A [] (gSub to ti t) (gS f m mi) := fun σ τ B H env pe env' r v Q hv hl e q => by
  obtain ⟨B0, s0, S0, hh0⟩ := hv.held
  obtain ⟨d, e1, h1, f1⟩ := bd_inv e
  obtain ⟨B1, s1, S1, hl1, rd⟩ := frz_ok S0 hl hh0 h1
  obtain ⟨r0, e2, h2, f2⟩ := bd_inv f1
  cases r0 with
  | bo i =>
    dsimp only at f2
    obtain ⟨r1, e3, h3, f3⟩ := bd_inv f2
    clear e f1 f2
    refine ho σ τ B1 H e1 pe e2 _ _ S1 hl1 h2 fun B2 H2 o s2 hl2 ho2 => ?_
    obtain ⟨S2, hi2⟩ := ho2
    refine hi σ τ B2 H2 e2 pe e3 _ _ S2 hl2 h3 fun B3 H3 k s3 hl3 hk => ?_
    obtain ⟨B4, s4, S4, hh⟩ := hk.held
    split at f3
    · rename_i d0 dk hm hc
      split at f3
      · rename_i d' hf
        cases f3
        obtain ⟨p, rfl, c, hw⟩ := mutAtD_at S4 hl3 hi2 hm
        refine hp B4 H3 p k v d0 dk d d' _ S4.same c (hh.rr S4 hl3 hc) (rd.mono ((s2.trans s3).trans s4)) hf fun o c' => ?_
        exact q σ B4 _ ((s0.trans s1).trans ((s2.trans s3).trans s4)) (by rw [putC_length]; exact hl3) (fun _ _ => rfl) (hw d' o c')
      · cases f3
    · cases f3
  | im d => cases f2
  | fr d => cases f2
def SeI (g : G0) (f : D → D → D → Option D) : Prop := ∃ t : TSet, (∀ c X, Cok g c X → PSet X t) ∧ PutS g.K t f
section
variable {g : G0} {c : Ct} {o i : Expr} {m mi : M Vl} {pos : Pos} {f : D → D → D → Option D}
theorem eg_sub (M : SeI g f) (h : EE g c o m) (h' : EE g c i mi) (ha : ∀ env v, assign (.Subscript o i pos) env v = (do
      let ov ← holding [v] (eval o env)
      let iv ← holding [v, ov] (eval i env)
      standAt pos
      holding [v, ov, iv] (setItem ov iv v)
      release [v, ov, iv] [])) : EG g c (.Subscript o i pos) [] (gS f m mi) := by
  obtain ⟨t1, h1, k1⟩ := h
  obtain ⟨t2, h2, k2⟩ := h'
  obtain ⟨t, ht, hp⟩ := M
  exact ⟨gSub t1 t2 t, fun X hX => pg_sub (h1 X hX) (h2 X hX) (ht c X hX) (ha _), fun A => sg_sub hp (k1 A) (k2 A)⟩
def setD : D → D → D → Option D
  | .lst ds, .int i, d => match ixN ds.length i with
    | some j => some (.lst (ds.set j d))
    | none => none
  | _, _, _ => none
theorem se_list : SeI g setD := ⟨rSetL, fun c X hX => set_list, fun B H p k v d0 dk d d' Q s c r rv e q => by
  unfold setD at e
  split at e
  · rename_i ds i
    split at e
    · rename_i j hj
      cases e
      obtain ⟨ys, hy, rr⟩ := cont_lst c
      exact ⟨p, ys, i, j, rfl, r.int, hy, by rw [← rr.length]; exact hj, q _ (.lst (rr.set rv j))⟩
    · cases e
  · cases e⟩
end
end PD
namespace PD
open PySem PySem.Spec PyProof.Rows L2

/-! ### a, b = x, y -/
def sPar (i j : Nat) (ms : M (List Vl)) : SM := fun e => match bd ms frzs e with
  | some ([d1, d2], e1) => match gN i (.im d1) e1 with
    | some (_, e2) => match gN j (.im d2) e2 with
      | some (_, e3) => some (.nx, e3)
      | none => none
    | none => none
  | _ => none
def sPar3 (i j l : Nat) (ms : M (List Vl)) : SM := fun e => match bd ms frzs e with
  | some ([d1, d2, d3], e1) => match gN i (.im d1) e1 with
    | some (_, e2) => match gN j (.im d2) e2 with
      | some (_, e3) => match gN l (.im d3) e3 with
        | some (_, e4) => some (.nx, e4)
        | none => none
      | none => none
    | none => none
  | _ => none
section
variable {K : PySem.W.Frag} {A : Anc}
theorem rps3 {K : PySem.W.Frag} {B : Hp} {d e f : D} {xs : List V} (r : Rps K B [d, e, f] xs) : ∃ x y z, xs = [x, y, z] ∧ Rp K B d x ∧ Rp K B e y ∧ Rp K B f z := by
  cases r with
  | cons r t =>
    obtain ⟨y, z, rfl, r2, r3⟩ := rps2 t
    exact ⟨_, y, z, rfl, r, r2, r3⟩
theorem ss_par {i j : Nat} {ta : TA} {ms : M (List Vl)} (ha : SAX K A ta ms) : SSX K A (tPar i j ta) (sPar i j ms) := fun σ B H env env' fl E S e q => by
  unfold sPar at e
  split at e
  · rename_i d1 d2 e1 h
    obtain ⟨rs, e0, h1, h2⟩ := bd_inv h
    refine ha σ [] B H env [] e0 rs _ S.nil_app S.len h1 fun B1 H1 vs s1 hl1 S1 hr => ?_
    obtain ⟨B2, s2, S2, hl2, rr⟩ := frzs_ok S1 hl1 hr h2
    obtain ⟨v, w, rfl, r1, r2⟩ := rps2 rr
    refine ⟨v, w, rfl, ?_⟩
    split at e
    · rename_i e2 h3
      split at e
      · rename_i e3 h4
        cases e
        refine sg_name (K := K) (A := A) σ [] B2 H1 e1 [] e2 (.im d1) v (fun σ' H' => E.nx (σ'.set j (some w)) H') ⟨S2, r1⟩ hl2 h3 fun σ1 B3 H3 s3 hl3 _ S3 => ?_
        exact sg_name (K := K) (A := A) σ1 [] B3 H3 e2 [] env' (.im d2) w E.nx ⟨S3, r2.mono s3⟩ hl3 h4 fun σ2 B4 H4 s4 hl4 _ S4 => q σ2 B4 H4 ((s1.trans s2).trans (s3.trans s4)) S4.app_nil
      · cases e
    · cases e
  · cases e
theorem ss_par3 {i j l : Nat} {ta : TA} {ms : M (List Vl)} (ha : SAX K A ta ms) : SSX K A (tPar3 i j l ta) (sPar3 i j l ms) := fun σ B H env env' fl E S e q => by
  unfold sPar3 at e
  split at e
  · rename_i d1 d2 d3 e1 h
    obtain ⟨rs, e0, h1, h2⟩ := bd_inv h
    refine ha σ [] B H env [] e0 rs _ S.nil_app S.len h1 fun B1 H1 vs s1 hl1 S1 hr => ?_
    obtain ⟨B2, s2, S2, hl2, rr⟩ := frzs_ok S1 hl1 hr h2
    obtain ⟨v, w, u, rfl, r1, r2, r3⟩ := rps3 rr
    refine ⟨v, w, u, rfl, ?_⟩
    split at e
    · rename_i e2 h3
      split at e
      · rename_i e3 h4
        split at e
        · rename_i e4 h5
          cases e
          refine sg_name (K := K) (A := A) σ [] B2 H1 e1 [] e2 (.im d1) v (fun σ' H' => E.nx ((σ'.set j (some w)).set l (some u)) H') ⟨S2, r1⟩ hl2 h3 fun σ1 B3 H3 s3 hl3 _ S3 => ?_
          refine sg_name (K := K) (A := A) σ1 [] B3 H3 e2 [] e3 (.im d2) w (fun σ' H' => E.nx (σ'.set l (some u)) H') ⟨S3, r2.mono s3⟩ hl3 h4 fun σ2 B4 H4 s4 hl4 _ S4 => ?_
          exact sg_name (K := K) (A := A) σ2 [] B4 H4 e3 [] env' (.im d3) u E.nx ⟨S4, r3.mono (s3.trans s4)⟩ hl4 h5 fun σ3 B5 H5 s5 hl5 _ S5 => q σ3 B5 H5 ((s1.trans s2).trans ((s3.trans s4).trans s5)) S5.app_nil
        · cases e
      · cases e
    · cases e
  · cases e
end
section
variable {g : G0} {c : Ct} {a b d : Expr} {ms : M (List Vl)} {pos px py pz pt : Pos} {kt k2 pt2}
theorem es_par {i j : Nat} {x y : Str} (hi : c.N[i]? = some x) (hj : c.N[j]? = some y) (hij : i ≠ j) (hx : c.sc.names.lookup x = some .local) (hy : c.sc.names.lookup y = some .local) (h : EA g c [a, b] ms)
    (hw : ∀ env : PySem.Env, env.scope = c.sc → swappedStores [.Tuple [.Name x px, .Name y py] kt pt] (.Tuple [a, b] k2 pt2) env = pure (some [x, y]))
    (hs : ∀ env : PySem.Env, swapsWithSole [.Tuple [.Name x px, .Name y py] kt pt] (.Tuple [a, b] k2 pt2) pos.line env = pure false) :
    ES g c (.Assign [.Tuple [.Name x px, .Name y py] kt pt] (.Tuple [a, b] k2 pt2) pos) (sPar i j ms) := by
  obtain ⟨t, h1, k1⟩ := h
  exact ⟨_, fun X hX => ps_par hX.calm hX.nd (by rw [hX.eN]; exact hi) (by rw [hX.eN]; exact hj) hij (by rw [hX.es]; exact hx) (by rw [hX.es]; exact hy) (h1 X hX) (hw X.env hX.es) (hs X.env), fun A => ss_par (k1 A)⟩
theorem es_par3 {i j l : Nat} {x y z : Str} (hi : c.N[i]? = some x) (hj : c.N[j]? = some y) (hk : c.N[l]? = some z) (hij : i ≠ j) (hil : i ≠ l) (hjl : j ≠ l) (hx : c.sc.names.lookup x = some .local) (hy : c.sc.names.lookup y = some .local) (hz : c.sc.names.lookup z = some .local) (h : EA g c [a, b, d] ms)
    (hw : ∀ env : PySem.Env, env.scope = c.sc → swappedStores [.Tuple [.Name x px, .Name y py, .Name z pz] kt pt] (.Tuple [a, b, d] k2 pt2) env = pure (some [x, y, z]))
    (hs : ∀ env : PySem.Env, swapsWithSole [.Tuple [.Name x px, .Name y py, .Name z pz] kt pt] (.Tuple [a, b, d] k2 pt2) pos.line env = pure false) :
    ES g c (.Assign [.Tuple [.Name x px, .Name y py, .Name z pz] kt pt] (.Tuple [a, b, d] k2 pt2) pos) (sPar3 i j l ms) := by
  obtain ⟨t, h1, k1⟩ := h
  exact ⟨_, fun X hX => ps_par3 hX.calm hX.nd (by rw [hX.eN]; exact hi) (by rw [hX.eN]; exact hj) (by rw [hX.eN]; exact hk) hij hil hjl (by rw [hX.es]; exact hx) (by rw [hX.es]; exact hy) (by rw [hX.es]; exact hz) (h1 X hX) (hw X.env hX.es) (hs X.env), fun A => ss_par3 (k1 A)⟩
end
end PD
namespace PD
open PySem PySem.Spec PyProof.Rows L2
/-- a module's constant -/
def GV (g : G0) (x : Str) (d : D) : Prop := ∃ (v : V) (u : Value), g.mg x = some u ∧ RelV v u ∧ ∀ B, Rp g.K B d v
theorem ee_gv {g : G0} {c : Ct} {x : Str} {d : D} {pos : Pos} (hg : GlC c x) (hm : GV g x d) (hdb : (x == ("__debug__" : Str)) = false) : EE g c (.Name x pos) (eC d) := by
  obtain ⟨v, u, h1, h2, h3⟩ := hm
  exact ee_glob hg h1 h2 h3 hdb
section
variable {g : G0} {c : Ct} {a b d : Expr} {ma mb mc : M Vl} {pos : Pos}
theorem et_cmp {op : CmpOp} {f : List D → Option Vl} (ho : OpI g (compareOp op) f) (h : EE g c a ma) (h' : EE g c b mb) (hm : behindInMarks op b = false) : ET g c (.Compare a [op] [b] pos) (mB (eP f (cA ma (cA mb cN)))) := by
  obtain ⟨r, o1, o2⟩ := ho
  obtain ⟨t, h1, h2⟩ := h
  obtain ⟨u, h3, h4⟩ := h'
  exact ⟨tTest (tOp r t u), fun X hX => pt_cmpR (o1 c X hX) (h1 X hX) (h3 X hX) hm, fun A => st_val (sx_op o2 (h2 A) (h4 A))⟩
theorem et_chain {op op' : CmpOp} {f h : List D → Option Vl} (ho : OpI g (compareOp op) f) (ho' : OpI g (compareOp op') h) (ha : EE g c a ma) (hb : EE g c b mb) (hc : EE g c d mc) (hm : lastMarks [op, op'] [b, d] = false) :
    ET g c (.Compare a [op, op'] [b, d] pos) (mB (eChain f h ma mb mc)) := by
  obtain ⟨r, o1, o2⟩ := ho
  obtain ⟨r', o3, o4⟩ := ho'
  obtain ⟨t, h1, h2⟩ := ha
  obtain ⟨u, h3, h4⟩ := hb
  obtain ⟨v, h5, h6⟩ := hc
  exact ⟨tTest (tChain r r' t u v), fun X hX => pt_chain (o1 c X hX) (o3 c X hX) (h1 X hX) (h3 X hX) (h5 X hX) hm, fun A => st_val (sx_chain o2 o4 (h2 A) (h4 A) (h6 A))⟩
end
end PD
namespace PD
open PySem PySem.Spec PyProof.Rows L2
/-! ### tools for the plain laws: loops and comprehensions by an invariant -/
theorem small_lit {n : Nat} (h : n ≤ 16777216) : small n = true := decide_eq_true h
theorem at_nat {α : Type} {l : List α} {j : Nat} {a : α} (h : l[j]? = some a) : L2.atI l (j : Int) = some a := atI_nat h
theorem atI_in {α : Type} {l : List α} {i : Int} (h0 : 0 ≤ i) (h1 : i < l.length) : ∃ a ∈ l, L2.atI l i = some a := by
  obtain ⟨j, rfl⟩ := Int.eq_ofNat_of_zero_le h0
  have hj : j < l.length := by omega
  exact ⟨l[j], List.getElem_mem hj, at_nat (List.getElem?_eq_getElem hj)⟩
theorem compL_inv {vs : List Nat} {g : Vl → M Unit} {tt : M Bool} {te : M Vl} {P : Nat → Env → Prop} {R : D → D → Prop} : ∀ {ds : List D} {k : Nat} {e : Env},
    (∀ i d e, ds[i]? = some d → P (k + i) e → ∃ e1 e2 r e3 y e4, g (.im d) e = some ((), e1) ∧ tt e1 = some (true, e2) ∧ te e2 = some (r, e3) ∧ frz r.hold e3 = some (y, e4) ∧ R d y ∧ P (k + i + 1) (wipeE e4 vs)) →
    P k e → ∃ ys e', compL vs g tt te ds e = some (ys, e') ∧ P (k + ds.length) e' ∧ Paired R ds ys
  | [], k, e, h, p => ⟨[], e, rfl, p, .nil⟩
  | d :: ds, k, e, h, p => by
    obtain ⟨e1, e2, r, e3, y, e4, h1, h2, h3, h4, h5, h6⟩ := h 0 d e rfl p
    obtain ⟨ys, e', g1, g2, g3⟩ := compL_inv (ds := ds) (k := k + 1) (fun i d e hd hp => by
      have := h (i + 1) d e hd (by rw [show k + (i + 1) = k + 1 + i by omega]; exact hp)
      rwa [show k + (i + 1) + 1 = k + 1 + i + 1 by omega] at this) h6
    refine ⟨y :: ys, e', ?_, ?_, .cons h5 g3⟩
    · unfold compL
      simp only [h1, h2, h3, h4, g1]
    · rw [List.length_cons, show k + (ds.length + 1) = k + 1 + ds.length by omega]
      exact g2
/-- a comprehension that leaves the slots as they are -/
theorem compL_map {vs : List Nat} {g : Vl → M Unit} {tt : M Bool} {te : M Vl} {e0 : Env} (f : D → D) : ∀ {ds : List D},
    (∀ d, d ∈ ds → ∃ e1 e2 r e3 e4, g (.im d) e0 = some ((), e1) ∧ tt e1 = some (true, e2) ∧ te e2 = some (r, e3) ∧ frz r.hold e3 = some (f d, e4) ∧ wipeE e4 vs = e0) →
    compL vs g tt te ds e0 = some (ds.map f, e0)
  | [], h => rfl
  | d :: ds, h => by
    obtain ⟨e1, e2, r, e3, e4, h1, h2, h3, h4, h6⟩ := h d (List.mem_cons_self ..)
    have ih := compL_map f (ds := ds) fun d hd => h d (List.mem_cons_of_mem _ hd)
    unfold compL
    simp only [h1, h2, h3, h4, h6, ih, List.map_cons]
theorem forL_inv {g : Vl → M Unit} {b : SM} {P : Nat → Env → Prop} : ∀ {ds : List D} {k : Nat} {e : Env},
    (∀ i d e, ds[i]? = some d → P (k + i) e → ∃ e1 e2, g (.im d) e = some ((), e1) ∧ (b e1 = some (.nx, e2) ∨ b e1 = some (.ct, e2)) ∧ P (k + i + 1) e2) → P k e → ∃ e', forL g b ds e = some (.nx, e') ∧ P (k + ds.length) e'
  | [], k, e, h, p => ⟨e, rfl, p⟩
  | d :: ds, k, e, h, p => by
    obtain ⟨e1, e2, h1, h2, h3⟩ := h 0 d e rfl p
    obtain ⟨e', g1, g2⟩ := forL_inv (ds := ds) (k := k + 1) (fun i d e hd hp => by
      have := h (i + 1) d e hd (by rw [show k + (i + 1) = k + 1 + i by omega]; exact hp)
      rwa [show k + (i + 1) + 1 = k + 1 + i + 1 by omega] at this) h3
    refine ⟨e', ?_, ?_⟩
    · unfold forL
      rcases h2 with h2 | h2 <;> simp only [h1, h2, g1]
    · rw [List.length_cons, show k + (ds.length + 1) = k + 1 + ds.length by omega]
      exact g2
theorem eComp_of {vs : List Nat} {mi : M (List D)} {g : Vl → M Unit} {tt : M Bool} {te : M Vl} {e e1 e2 : Env} {ds ys : List D} (h1 : mi e = some (ds, e1)) (h2 : (vs.all fun v => calmS e1[v]?) = true) (h3 : compL vs g tt te ds (wipeE e1 vs) = some (ys, e2)) (h4 : small ys.length = true) :
    eComp vs mi g tt te e = some (.fr (.lst ys), unwipe e1 e2 vs) := by
  unfold eComp
  simp only [h1, h2, h3, h4, if_true]
theorem paired_len {α β : Type} {R : α → β → Prop} : ∀ {xs : List α} {ys : List β}, Paired R xs ys → xs.length = ys.length
  | _, _, .nil => rfl
  | _, _, .cons _ t => by rw [List.length_cons, List.length_cons, paired_len t]
theorem paired_mem {α β : Type} {R : α → β → Prop} : ∀ {xs : List α} {ys : List β} {y : β}, Paired R xs ys → y ∈ ys → ∃ x ∈ xs, R x y
  | _, _, _, .cons h t, m => by
    rcases List.mem_cons.mp m with rfl | m
    · exact ⟨_, List.mem_cons_self .., h⟩
    · obtain ⟨x, h1, h2⟩ := paired_mem t m
      exact ⟨x, List.mem_cons_of_mem _ h1, h2⟩

/-! ### texts of small signs -/
def As (n : Nat) (x : Str) : Prop := x.length ≤ n ∧ ∀ c ∈ x.cps.toList, c < 128
theorem As.mono {n m : Nat} {x : Str} (h : As n x) (hn : n ≤ m) : As m x := ⟨Nat.le_trans h.1 hn, h.2⟩
theorem As.app {n m : Nat} {x y : Str} (h : As n x) (h' : As m y) : As (n + m) (x ++ y) := by
  refine ⟨by rw [len_app]; have := h.1; have := h'.1; omega, fun c hc => ?_⟩
  have : c ∈ (x.cps ++ y.cps).toList := hc
  rw [Array.toList_append, List.mem_append] at this
  exact this.elim (h.2 c) (h'.2 c)
theorem As.cut {n : Nat} {x : Str} (h : As n x) (lo hi : Option Int) : As n (cutS x lo hi) := by
  refine ⟨?_, fun c hc => ?_⟩
  · have h1 : x.cps.size ≤ n := h.1
    show (((x.cps.toList.drop (HT.sIx x.length 0 lo)).take (HT.sIx x.length x.length hi - HT.sIx x.length 0 lo)).toArray).size ≤ n
    simp
    omega
  · have hc : c ∈ (x.cps.toList.drop (HT.sIx x.length 0 lo)).take (HT.sIx x.length x.length hi - HT.sIx x.length 0 lo) := by simpa [cutS] using hc
    exact h.2 c (List.mem_of_mem_drop (List.mem_of_mem_take hc))
theorem As.ok {n : Nat} {x : Str} (h : As n x) : PyData.strOk x = true := ok_mem.mpr fun c hc => Nat.lt_trans (h.2 c hc) (by decide)
theorem As.one {c n : Nat} (h : c < 128) (hn : 1 ≤ n) : As n ⟨#[c]⟩ := ⟨hn, fun d hd => by
  have : d = c := by simpa using hd
  omega⟩
theorem upper_ascii : ∀ c, c < 128 → Unicode.upperOf c = [if 97 ≤ c ∧ c ≤ 122 then c - 32 else c] := by
  have : (List.range 128).all (fun c => Unicode.upperOf c == [if 97 ≤ c ∧ c ≤ 122 then c - 32 else c]) = true := by decide +kernel
  intro c hc
  exact eq_of_beq (List.all_eq_true.mp this c (List.mem_range.mpr hc))
theorem mapIdx_const {α β : Type} (f : α → β) (l : List α) : l.mapIdx (fun _ a => f a) = l.map f := by
  apply List.ext_getElem?
  intro i
  simp
theorem As.upper {n : Nat} {x : Str} (h : As n x) : As n (Txt.upper x) := by
  have e : (Txt.upper x).cps.toList = x.cps.toList.map fun c => if 97 ≤ c ∧ c ≤ 122 then c - 32 else c := by
    have e1 : (Txt.upper x).cps.toList = ((x.cps.toList.mapIdx fun _ c => (Unicode.upperOf c).toArray).map Array.toList).flatten := by
      show ((x.cps.mapIdx fun i c => (Unicode.upperOf c).toArray).flatten).toList = _
      rw [Array.toList_flatten, Array.toList_mapIdx]
    rw [e1, mapIdx_const (fun c => (Unicode.upperOf c).toArray), List.map_map]
    have : ∀ l : List Nat, (∀ c ∈ l, c < 128) → (l.map (Array.toList ∘ fun c => (Unicode.upperOf c).toArray)).flatten = l.map fun c => if 97 ≤ c ∧ c ≤ 122 then c - 32 else c := by
      intro l
      induction l with
      | nil => intro _; rfl
      | cons c r ih =>
        intro hl
        rw [List.map_cons, List.flatten_cons, ih fun d hd => hl d (List.mem_cons_of_mem _ hd), List.map_cons]
        show Unicode.upperOf c ++ _ = _
        rw [upper_ascii c (hl c (List.mem_cons_self ..))]
        rfl
    exact this _ h.2
  refine ⟨?_, fun c hc => ?_⟩
  · show (Txt.upper x).cps.size ≤ n
    rw [← Array.length_toList, e, List.length_map, Array.length_toList]
    exact h.1
  · rw [e] at hc
    obtain ⟨d, hd, rfl⟩ := List.mem_map.mp hc
    have := h.2 d hd
    split <;> omega
theorem As.times {n : Nat} {x : Str} (h : As n x) (k : Nat) : As (k * n) (timesS x k) := by
  refine ⟨?_, fun c hc => ?_⟩
  · show ((List.replicate k x.cps.toList).flatten).toArray.size ≤ _
    have h1 : x.cps.size ≤ n := h.1
    simp
    exact Nat.mul_le_mul_left k h1
  · have hc : c ∈ (List.replicate k x.cps.toList).flatten := by simpa [timesS] using hc
    obtain ⟨l, hl, hc⟩ := List.mem_flatten.mp hc
    rw [(List.mem_replicate.mp hl).2] at hc
    exact h.2 c hc
/-- single signs joined -/
theorem join_signs : ∀ cs : List Nat, Str.join "" (cs.map fun c => (⟨#[c]⟩ : Str)) = ⟨cs.toArray⟩
  | [] => rfl
  | [c] => rfl
  | c :: d :: r => by
    have ih := join_signs (d :: r)
    show (⟨#[c]⟩ : Str) ++ "" ++ Str.join "" ((d :: r).map fun c => (⟨#[c]⟩ : Str)) = _
    rw [ih]
    show (⟨(#[c] ++ (Str.ofString "").cps) ++ (d :: r).toArray⟩ : Str) = _
    have : (Str.ofString "").cps = #[] := by decide +kernel
    rw [this]
    simp
theorem txt_join_signs (cs : List Nat) : Txt.join "" (cs.map fun c => (⟨#[c]⟩ : Str)) = ⟨cs.toArray⟩ := (StrLaws.glued_eq_join _ _).trans (join_signs cs)
theorem contains_sign (x : Str) (c : Nat) : Txt.contains x ⟨#[c]⟩ = decide (c ∈ x.cps.toList) := by
  unfold Txt.contains
  rw [empty_one, Bool.not_not]
/-- the signs of L, counted one by one in a text: how many of its signs stand in L -/
theorem count_of (xs : List Nat) : ∀ L : List Nat, L.Nodup → (L.map fun c => PyProof.Rows.cnt c xs).sum = ((xs.countP fun c => decide (c ∈ L) : Nat) : Int)
  | [], _ => by simp
  | l :: L, h => by
    have h := List.nodup_cons.mp h
    have ih := count_of xs L h.2
    rw [List.map_cons, List.sum_cons, ih]
    clear ih
    induction xs with
    | nil => simp [PyProof.Rows.cnt_nil]
    | cons x r ih =>
      rw [PyProof.Rows.cnt_cons, List.countP_cons, List.countP_cons]
      by_cases hx : x = l
      · subst hx
        simp only [if_pos rfl, h.1, decide_false, List.mem_cons, true_or, decide_true]
        simp at ih ⊢
        omega
      · simp only [if_neg hx, List.mem_cons, hx, false_or]
        simp at ih ⊢
        split <;> omega
end PD
namespace L_k01
open PySem PySem.Spec PyProof.Rows L2 PD
def topS (i : Nat) : Stmt := PySem.Challenge.pw_wetfields_k01_names.main.body.getD i (.Pass ⟨0, 0, 0, 0⟩)
abbrev s__law_box : Stmt := topS 5
abbrev s__law_take : Stmt := topS 6
abbrev s__law_name : Stmt := topS 9
abbrev s__law_bent : Stmt := topS 10
abbrev s_is_name : Stmt := topS 3
abbrev s__law_is : Stmt := topS 7
abbrev s__law_right : Stmt := topS 8
abbrev s_law : Stmt := topS 11
theorem bt_abs : bootBuiltins "abs" = some (.builtin "abs") := by decide +kernel
theorem bt_all : bootBuiltins "all" = some (.builtin "all") := by decide +kernel
theorem bt_bool : bootBuiltins "bool" = some (.type "bool") := by decide +kernel
theorem bt_int : bootBuiltins "int" = some (.type "int") := by decide +kernel
theorem bt_isinstance : bootBuiltins "isinstance" = some (.builtin "isinstance") := by decide +kernel
theorem bt_len : bootBuiltins "len" = some (.builtin "len") := by decide +kernel
theorem bt_min : bootBuiltins "min" = some (.builtin "min") := by decide +kernel
theorem bt_repr : bootBuiltins "repr" = some (.builtin "repr") := by decide +kernel
theorem bt_str : bootBuiltins "str" = some (.type "str") := by decide +kernel
theorem bt_sum : bootBuiltins "sum" = some (.builtin "sum") := by decide +kernel
structure Hyp (g : G0) : Prop where
  d__law_box : DefAt g "_law_box" s__law_box ["_law_script", "_law_k"]
  d__law_take : DefAt g "_law_take" s__law_take ["_law_box_here", "_law_many"]
  d__law_name : DefAt g "_law_name" s__law_name ["_law_box_here"]
  d__law_bent : DefAt g "_law_bent" s__law_bent ["_law_box_here", "_law_name_here"]
  d_is_name : DefAt g "is_name" s_is_name ["thing"]
  d__law_is : DefAt g "_law_is" s__law_is ["_law_thing"]
  d__law_right : DefAt g "_law_right" s__law_right ["_law_thing"]
  c_LETTERS : GV g "LETTERS" (.str "abcdefghijklmnopqrstuvwxyz")
  c_LONGEST : GV g "LONGEST" (.int 6)
  z_abs : g.mg "abs" = none
  z_all : g.mg "all" = none
  z_bool : g.mg "bool" = none
  z_int : g.mg "int" = none
  z_isinstance : g.mg "isinstance" = none
  z_len : g.mg "len" = none
  z_min : g.mg "min" = none
  z_range : g.mg "range" = none
  z_repr : g.mg "repr" = none
  z_str : g.mg "str" = none
  z_sum : g.mg "sum" = none
theorem sc__law_box : FnScope ["_law_script", "_law_k", "_law_cell"] ["_law_script", "_law_k"] (defScope s__law_box) := ⟨rfl, rfl, rfl, by decide +kernel, rfl, by decide +kernel, by decide +kernel⟩
def b__law_box : SM := (sSeq (sAsg (eC (.int 0)) (gN 2))
    (sSeq (sIf (mB (eP ltD (cA (eV 1) (cA (eP lenD (cA (eV 0) cN)) cN)))) (sSeq (sAsg (eP ixD (cA (eV 0) (cA (eV 1) cN))) (gN 2))
    sNil) sNil)
    (sSeq (sRet (eLst (cA (eP mulD (cA (eP absD (cA (eV 2) cN)) (cA (eP intD (cA (eP geD (cA (eP absD (cA (eV 2) cN)) (cA (eP powD (cA (eC (.int 10)) (cA (eC (.int 18)) cN))) cN))) cN)) cN))) (cA (eP addD (cA (eP addD (cA (eP modD (cA (eV 2) (cA (eC (.int 2147483629)) cN))) (cA (eP mulD (cA (eC (.int 7919)) (cA (eV 1) cN))) cN))) (cA (eC (.int 11)) cN))) (cA (eC (.int 0)) cN)))))
    sNil)))
def F__law_box : Fs := ⟨runF [false, false] 3 b__law_box, [false, false]⟩
theorem fn__law_box {g : G0} (h : Hyp g) : FnI g "_law_box" 1 F__law_box :=
  fn_rule h.d__law_box sc__law_box rfl (es_cons (es_set (i := 2) rfl (by first | exact .inl rfl | exact .inr rfl) ee_int (fun _ => rfl) (.inl rfl))
    (es_cons (es_if (et_cmp op_ltD (ee_var (i := 1) rfl (by first | exact .inl rfl | exact .inr (.inl rfl) | exact .inr (.inr rfl)) (by decide) (by decide)) (ee_callB ca_len rfl h.z_len bt_len (ea_cons (ee_var (i := 0) rfl (by first | exact .inl rfl | exact .inr (.inl rfl) | exact .inr (.inr rfl)) (by decide) (by decide)) ea_nil (fun _ _ => rfl)) (fun _ _ => rfl) (fun _ => rfl) (by decide) (by decide)) rfl) (es_cons (es_set (i := 2) rfl (by first | exact .inl rfl | exact .inr rfl) (ee_ix (ee_var (i := 0) rfl (by first | exact .inl rfl | exact .inr (.inl rfl) | exact .inr (.inr rfl)) (by decide) (by decide)) (ee_var (i := 1) rfl (by first | exact .inl rfl | exact .inr (.inl rfl) | exact .inr (.inr rfl)) (by decide) (by decide)) (fun _ _ => rfl)) (fun _ => rfl) (.inl rfl))
    es_nil) es_nil)
    (es_cons (es_ret (ee_lst (ea_cons (ee_bin op_mulD (ee_callB ca_abs rfl h.z_abs bt_abs (ea_cons (ee_var (i := 2) rfl (by first | exact .inl rfl | exact .inr (.inl rfl) | exact .inr (.inr rfl)) (by decide) (by decide)) ea_nil (fun _ _ => rfl)) (fun _ _ => rfl) (fun _ => rfl) (by decide) (by decide)) (ee_callTy ca_int rfl h.z_int bt_int (ea_cons (ee_cmp op_geD (ee_callB ca_abs rfl h.z_abs bt_abs (ea_cons (ee_var (i := 2) rfl (by first | exact .inl rfl | exact .inr (.inl rfl) | exact .inr (.inr rfl)) (by decide) (by decide)) ea_nil (fun _ _ => rfl)) (fun _ _ => rfl) (fun _ => rfl) (by decide) (by decide)) (ee_bin op_powD ee_int ee_int) rfl) ea_nil (fun _ _ => rfl)) (fun _ _ => rfl) (fun _ => rfl) (by decide) (by decide))) (ea_cons (ee_bin op_addD (ee_bin op_addD (ee_bin op_modD (ee_var (i := 2) rfl (by first | exact .inl rfl | exact .inr (.inl rfl) | exact .inr (.inr rfl)) (by decide) (by decide)) ee_int) (ee_bin op_mulD ee_int (ee_var (i := 1) rfl (by first | exact .inl rfl | exact .inr (.inl rfl) | exact .inr (.inr rfl)) (by decide) (by decide)))) ee_int) (ea_cons ee_int ea_nil (fun _ _ => rfl)) (fun _ _ => rfl)) (fun _ _ => rfl))))
    es_nil)))
theorem sc__law_take : FnScope ["_law_box_here", "_law_many", "_law_once", "_law_found"] ["_law_box_here", "_law_many"] (defScope s__law_take) := ⟨rfl, rfl, rfl, by decide +kernel, rfl, by decide +kernel, by decide +kernel⟩
def b__law_take : SM := (sSeq (sIf (mB (eP gtD (cA (eP ixD (cA (eV 0) (cA (eC (.int 0)) cN))) (cA (eC (.int 0)) cN)))) (sSeq (sAsg (eP modD (cA (eP ixD (cA (eV 0) (cA (eC (.int 0)) cN))) (cA (eV 1) cN))) (gN 3))
    (sSeq (sAsg (eP divD (cA (eP ixD (cA (eV 0) (cA (eC (.int 0)) cN))) (cA (eV 1) cN))) (gS setD (eV 0) (eC (.int 0))))
    (sSeq (sRet (eV 3))
    sNil))) sNil)
    (sSeq (sAsg (eP addD (cA (eP ixD (cA (eV 0) (cA (eC (.int 2)) cN))) (cA (eC (.int 1)) cN))) (gS setD (eV 0) (eC (.int 2))))
    (sSeq (sAsg (eP modD (cA (eP powD (cA (eP addD (cA (eP ixD (cA (eV 0) (cA (eC (.int 1)) cN))) (cA (eP mulD (cA (eC (.int 39373)) (cA (eP ixD (cA (eV 0) (cA (eC (.int 2)) cN))) cN))) cN))) (cA (eC (.int 5)) cN))) (cA (eC (.int 2147483647)) cN))) (gN 2))
    (sSeq (sRet (eP modD (cA (eP divD (cA (eP modD (cA (eP addD (cA (eP mulD (cA (eV 2) (cA (eP addD (cA (eP modD (cA (eV 2) (cA (eC (.int 40009)) cN))) (cA (eC (.int 7)) cN))) cN))) (cA (eP mulD (cA (eP ixD (cA (eV 0) (cA (eC (.int 2)) cN))) (cA (eC (.int 7919)) cN))) cN))) (cA (eC (.int 2147483629)) cN))) (cA (eC (.int 64)) cN))) (cA (eV 1) cN))))
    sNil))))
def F__law_take : Fs := ⟨runF [true, false] 4 b__law_take, [true, false]⟩
theorem fn__law_take {g : G0} (h : Hyp g) : FnI g "_law_take" 1 F__law_take :=
  fn_rule h.d__law_take sc__law_take rfl (es_cons (es_if (et_cmp op_gtD (ee_ix (ee_var (i := 0) rfl (by first | exact .inl rfl | exact .inr (.inl rfl) | exact .inr (.inr rfl)) (by decide) (by decide)) ee_int (fun _ _ => rfl)) ee_int rfl) (es_cons (es_set (i := 3) rfl (by first | exact .inl rfl | exact .inr rfl) (ee_bin op_modD (ee_ix (ee_var (i := 0) rfl (by first | exact .inl rfl | exact .inr (.inl rfl) | exact .inr (.inr rfl)) (by decide) (by decide)) ee_int (fun _ _ => rfl)) (ee_var (i := 1) rfl (by first | exact .inl rfl | exact .inr (.inl rfl) | exact .inr (.inr rfl)) (by decide) (by decide))) (fun _ => rfl) (.inl rfl))
    (es_cons (es_asg (ee_bin op_divD (ee_ix (ee_var (i := 0) rfl (by first | exact .inl rfl | exact .inr (.inl rfl) | exact .inr (.inr rfl)) (by decide) (by decide)) ee_int (fun _ _ => rfl)) (ee_var (i := 1) rfl (by first | exact .inl rfl | exact .inr (.inl rfl) | exact .inr (.inr rfl)) (by decide) (by decide))) (eg_sub se_list (ee_var (i := 0) rfl (by first | exact .inl rfl | exact .inr (.inl rfl) | exact .inr (.inr rfl)) (by decide) (by decide)) ee_int (fun _ _ => rfl)) (fun _ => rfl) (fun env he => by cases env; cases he; rfl) (fun _ => rfl))
    (es_cons (es_ret (ee_var (i := 3) rfl (by first | exact .inl rfl | exact .inr (.inl rfl) | exact .inr (.inr rfl)) (by decide) (by decide)))
    es_nil))) es_nil)
    (es_cons (es_asg (ee_bin op_addD (ee_ix (ee_var (i := 0) rfl (by first | exact .inl rfl | exact .inr (.inl rfl) | exact .inr (.inr rfl)) (by decide) (by decide)) ee_int (fun _ _ => rfl)) ee_int) (eg_sub se_list (ee_var (i := 0) rfl (by first | exact .inl rfl | exact .inr (.inl rfl) | exact .inr (.inr rfl)) (by decide) (by decide)) ee_int (fun _ _ => rfl)) (fun _ => rfl) (fun env he => by cases env; cases he; rfl) (fun _ => rfl))
    (es_cons (es_set (i := 2) rfl (by first | exact .inl rfl | exact .inr rfl) (ee_bin op_modD (ee_bin op_powD (ee_bin op_addD (ee_ix (ee_var (i := 0) rfl (by first | exact .inl rfl | exact .inr (.inl rfl) | exact .inr (.inr rfl)) (by decide) (by decide)) ee_int (fun _ _ => rfl)) (ee_bin op_mulD ee_int (ee_ix (ee_var (i := 0) rfl (by first | exact .inl rfl | exact .inr (.inl rfl) | exact .inr (.inr rfl)) (by decide) (by decide)) ee_int (fun _ _ => rfl)))) ee_int) ee_int) (fun _ => rfl) (.inl rfl))
    (es_cons (es_ret (ee_bin op_modD (ee_bin op_divD (ee_bin op_modD (ee_bin op_addD (ee_bin op_mulD (ee_var (i := 2) rfl (by first | exact .inl rfl | exact .inr (.inl rfl) | exact .inr (.inr rfl)) (by decide) (by decide)) (ee_bin op_addD (ee_bin op_modD (ee_var (i := 2) rfl (by first | exact .inl rfl | exact .inr (.inl rfl) | exact .inr (.inr rfl)) (by decide) (by decide)) ee_int) ee_int)) (ee_bin op_mulD (ee_ix (ee_var (i := 0) rfl (by first | exact .inl rfl | exact .inr (.inl rfl) | exact .inr (.inr rfl)) (by decide) (by decide)) ee_int (fun _ _ => rfl)) ee_int)) ee_int) ee_int) (ee_var (i := 1) rfl (by first | exact .inl rfl | exact .inr (.inl rfl) | exact .inr (.inr rfl)) (by decide) (by decide))))
    es_nil))))
theorem sc__law_name : FnScope ["_law_box_here", "_law_letters", "_law_size", "_law_k"] ["_law_box_here"] (defScope s__law_name) := ⟨rfl, rfl, rfl, by decide +kernel, rfl, by decide +kernel, by decide +kernel⟩
def ce__law_name_1 : M Vl := (eP ixD (cA (eV 1) (cA (eCall F__law_take (cA (eV 0) (cA (eC (.int 26)) cN))) cN)))
def cp__law_name_1 : M Vl := eComp [3] (mR1 (cA (eV 2) cN)) (gN 3) (rt true) ce__law_name_1
def b__law_name : SM := (sSeq (sAsg (eC (.str "abcdefghijklmnopqrstuvwxyz")) (gN 1))
    (sSeq (sAsg (eP ixD (cA (eLst (cA (eC (.int 1)) (cA (eC (.int 6)) (cA (eP addD (cA (eC (.int 1)) (cA (eCall F__law_take (cA (eV 0) (cA (eC (.int 6)) cN))) cN))) cN)))) (cA (eCall F__law_take (cA (eV 0) (cA (eC (.int 3)) cN))) cN))) (gN 2))
    (sSeq (sRet (eM "str" joinD (eC (.str "")) (cA cp__law_name_1 cN)))
    sNil)))
def F__law_name : Fs := ⟨runF [true] 4 b__law_name, [true]⟩
theorem fn__law_name {g : G0} (h : Hyp g) : FnI g "_law_name" 2 F__law_name :=
  fn_rule h.d__law_name sc__law_name rfl (es_cons (es_set (i := 1) rfl (by first | exact .inl rfl | exact .inr rfl) (ee_str (by decide +kernel)) (fun _ => rfl) (.inl rfl))
    (es_cons (es_set (i := 2) rfl (by first | exact .inl rfl | exact .inr rfl) (ee_ix (ee_lst (ea_cons ee_int (ea_cons ee_int (ea_cons (ee_bin op_addD ee_int (ee_call (fn__law_take h) (by decide) rfl (ea_cons (ee_var (i := 0) rfl (by first | exact .inl rfl | exact .inr (.inl rfl) | exact .inr (.inr rfl)) (by decide) (by decide)) (ea_cons ee_int ea_nil (fun _ _ => rfl)) (fun _ _ => rfl)) (fun _ _ => rfl) (fun _ => rfl) (by decide))) ea_nil (fun _ _ => rfl)) (fun _ _ => rfl)) (fun _ _ => rfl))) (ee_call (fn__law_take h) (by decide) rfl (ea_cons (ee_var (i := 0) rfl (by first | exact .inl rfl | exact .inr (.inl rfl) | exact .inr (.inr rfl)) (by decide) (by decide)) (ea_cons ee_int ea_nil (fun _ _ => rfl)) (fun _ _ => rfl)) (fun _ _ => rfl) (fun _ => rfl) (by decide)) (fun _ _ => rfl)) (fun _ => rfl) (.inl rfl))
    (es_cons (es_ret (ee_meth me_join (ee_str (by decide +kernel)) (ea_cons (ee_comp (own := [("_law_k", 3)]) (by decide +kernel) (by decide) (by decide) (ei_r1 rfl h.z_range (ea_cons (ee_var (i := 2) rfl (by first | exact .inl rfl | exact .inr (.inl rfl) | exact .inr (.inr rfl)) (by decide) (by decide)) ea_nil (fun _ _ => rfl)) (fun _ _ => rfl)) (eg_name (i := 3) rfl (by first | exact .inl rfl | exact .inr rfl) (by first | exact .inl rfl | exact .inr rfl)) ep_nil (ee_ix (ee_var (i := 1) rfl (by first | exact .inl rfl | exact .inr (.inl rfl) | exact .inr (.inr rfl)) (by decide) (by decide)) (ee_call (fn__law_take h) (by decide) rfl (ea_cons (ee_var (i := 0) rfl (by first | exact .inl rfl | exact .inr (.inl rfl) | exact .inr (.inr rfl)) (by decide) (by decide)) (ea_cons ee_int ea_nil (fun _ _ => rfl)) (fun _ _ => rfl)) (fun _ _ => rfl) (fun _ => rfl) (by decide)) (fun _ _ => rfl)) (fun _ _ => rfl)) ea_nil (fun _ _ => rfl)) (fun _ _ => rfl) (fun _ => rfl) (fun _ => rfl) rfl (fun _ => rfl)))
    es_nil)))
theorem sc__law_bent : FnScope ["_law_box_here", "_law_name_here", "_law_signs", "_law_sign", "_law_at", "_law_ahead", "_law_behind", "_law_some"] ["_law_box_here", "_law_name_here"] (defScope s__law_bent) := ⟨rfl, rfl, rfl, by decide +kernel, rfl, by decide +kernel, by decide +kernel⟩
def b__law_bent : SM := (sSeq (sAsg (eC (.str " !\"#$&'()*+,-./0123456789:;<=>?@ABCDEFGHIJKLMNOPQRSTUVWXYZ[\\]^_`abcdefghijklmnopqrstuvwxyz{|}~\n\t")) (gN 2))
    (sSeq (sPar 3 4 (cA (eP ixD (cA (eV 2) (cA (eCall F__law_take (cA (eV 0) (cA (eP lenD (cA (eV 2) cN)) cN))) cN))) (cA (eCall F__law_take (cA (eV 0) (cA (eP addD (cA (eP lenD (cA (eV 1) cN)) (cA (eC (.int 1)) cN))) cN))) cN)))
    (sSeq (sPar 5 6 (cA (eSl (eV 1) oN (oS (eV 4))) (cA (eSl (eV 1) (oS (eV 4)) oN) cN)))
    (sSeq (sAsg (eLst (cA (eP addD (cA (eP addD (cA (eV 5) (cA (eV 3) cN))) (cA (eV 6) cN))) (cA (eP addD (cA (eP addD (cA (eV 5) (cA (eV 3) cN))) (cA (eSl (eV 6) (oS (eC (.int 1))) oN) cN))) (cA (eP addD (cA (eV 5) (cA (eSl (eV 6) (oS (eC (.int 1))) oN) cN))) (cA (eP addD (cA (eP addD (cA (eV 5) (cA (eSl (eV 6) oN (oS (eC (.int 1)))) cN))) (cA (eV 6) cN))) cN))))) (gN 7))
    (sSeq (sRet (eP ixD (cA (eP addD (cA (eV 7) (cA (eLst (cA (eM "str" upperD (eV 1) cN) (cA (eP addD (cA (eV 1) (cA (eV 3) cN))) cN))) cN))) (cA (eCall F__law_take (cA (eV 0) (cA (eC (.int 6)) cN))) cN))))
    sNil)))))
def F__law_bent : Fs := ⟨runF [true, false] 8 b__law_bent, [true, false]⟩
theorem fn__law_bent {g : G0} (h : Hyp g) : FnI g "_law_bent" 2 F__law_bent :=
  fn_rule h.d__law_bent sc__law_bent rfl (es_cons (es_set (i := 2) rfl (by first | exact .inl rfl | exact .inr rfl) (ee_str (by decide +kernel)) (fun _ => rfl) (.inl rfl))
    (es_cons (es_par (i := 3) (j := 4) rfl rfl (by decide) rfl rfl (ea_cons (ee_ix (ee_var (i := 2) rfl (by first | exact .inl rfl | exact .inr (.inl rfl) | exact .inr (.inr rfl)) (by decide) (by decide)) (ee_call (fn__law_take h) (by decide) rfl (ea_cons (ee_var (i := 0) rfl (by first | exact .inl rfl | exact .inr (.inl rfl) | exact .inr (.inr rfl)) (by decide) (by decide)) (ea_cons (ee_callB ca_len rfl h.z_len bt_len (ea_cons (ee_var (i := 2) rfl (by first | exact .inl rfl | exact .inr (.inl rfl) | exact .inr (.inr rfl)) (by decide) (by decide)) ea_nil (fun _ _ => rfl)) (fun _ _ => rfl) (fun _ => rfl) (by decide) (by decide)) ea_nil (fun _ _ => rfl)) (fun _ _ => rfl)) (fun _ _ => rfl) (fun _ => rfl) (by decide)) (fun _ _ => rfl)) (ea_cons (ee_call (fn__law_take h) (by decide) rfl (ea_cons (ee_var (i := 0) rfl (by first | exact .inl rfl | exact .inr (.inl rfl) | exact .inr (.inr rfl)) (by decide) (by decide)) (ea_cons (ee_bin op_addD (ee_callB ca_len rfl h.z_len bt_len (ea_cons (ee_var (i := 1) rfl (by first | exact .inl rfl | exact .inr (.inl rfl) | exact .inr (.inr rfl)) (by decide) (by decide)) ea_nil (fun _ _ => rfl)) (fun _ _ => rfl) (fun _ => rfl) (by decide) (by decide)) ee_int) ea_nil (fun _ _ => rfl)) (fun _ _ => rfl)) (fun _ _ => rfl) (fun _ => rfl) (by decide)) ea_nil (fun _ _ => rfl)) (fun _ _ => rfl)) (fun env he => by cases env; cases he; rfl) (fun _ => rfl))
    (es_cons (es_par (i := 5) (j := 6) rfl rfl (by decide) rfl rfl (ea_cons (ee_sl (ee_var (i := 1) rfl (by first | exact .inl rfl | exact .inr (.inl rfl) | exact .inr (.inr rfl)) (by decide) (by decide)) eo_none (eo_some (ee_var (i := 4) rfl (by first | exact .inl rfl | exact .inr (.inl rfl) | exact .inr (.inr rfl)) (by decide) (by decide)))) (ea_cons (ee_sl (ee_var (i := 1) rfl (by first | exact .inl rfl | exact .inr (.inl rfl) | exact .inr (.inr rfl)) (by decide) (by decide)) (eo_some (ee_var (i := 4) rfl (by first | exact .inl rfl | exact .inr (.inl rfl) | exact .inr (.inr rfl)) (by decide) (by decide))) eo_none) ea_nil (fun _ _ => rfl)) (fun _ _ => rfl)) (fun env he => by cases env; cases he; rfl) (fun _ => rfl))
    (es_cons (es_set (i := 7) rfl (by first | exact .inl rfl | exact .inr rfl) (ee_lst (ea_cons (ee_bin op_addD (ee_bin op_addD (ee_var (i := 5) rfl (by first | exact .inl rfl | exact .inr (.inl rfl) | exact .inr (.inr rfl)) (by decide) (by decide)) (ee_var (i := 3) rfl (by first | exact .inl rfl | exact .inr (.inl rfl) | exact .inr (.inr rfl)) (by decide) (by decide))) (ee_var (i := 6) rfl (by first | exact .inl rfl | exact .inr (.inl rfl) | exact .inr (.inr rfl)) (by decide) (by decide))) (ea_cons (ee_bin op_addD (ee_bin op_addD (ee_var (i := 5) rfl (by first | exact .inl rfl | exact .inr (.inl rfl) | exact .inr (.inr rfl)) (by decide) (by decide)) (ee_var (i := 3) rfl (by first | exact .inl rfl | exact .inr (.inl rfl) | exact .inr (.inr rfl)) (by decide) (by decide))) (ee_sl (ee_var (i := 6) rfl (by first | exact .inl rfl | exact .inr (.inl rfl) | exact .inr (.inr rfl)) (by decide) (by decide)) (eo_some ee_int) eo_none)) (ea_cons (ee_bin op_addD (ee_var (i := 5) rfl (by first | exact .inl rfl | exact .inr (.inl rfl) | exact .inr (.inr rfl)) (by decide) (by decide)) (ee_sl (ee_var (i := 6) rfl (by first | exact .inl rfl | exact .inr (.inl rfl) | exact .inr (.inr rfl)) (by decide) (by decide)) (eo_some ee_int) eo_none)) (ea_cons (ee_bin op_addD (ee_bin op_addD (ee_var (i := 5) rfl (by first | exact .inl rfl | exact .inr (.inl rfl) | exact .inr (.inr rfl)) (by decide) (by decide)) (ee_sl (ee_var (i := 6) rfl (by first | exact .inl rfl | exact .inr (.inl rfl) | exact .inr (.inr rfl)) (by decide) (by decide)) eo_none (eo_some ee_int))) (ee_var (i := 6) rfl (by first | exact .inl rfl | exact .inr (.inl rfl) | exact .inr (.inr rfl)) (by decide) (by decide))) ea_nil (fun _ _ => rfl)) (fun _ _ => rfl)) (fun _ _ => rfl)) (fun _ _ => rfl))) (fun _ => rfl) (.inl rfl))
    (es_cons (es_ret (ee_ix (ee_bin op_addD (ee_var (i := 7) rfl (by first | exact .inl rfl | exact .inr (.inl rfl) | exact .inr (.inr rfl)) (by decide) (by decide)) (ee_lst (ea_cons (ee_meth0 me_upper (ee_var (i := 1) rfl (by first | exact .inl rfl | exact .inr (.inl rfl) | exact .inr (.inr rfl)) (by decide) (by decide)) (fun _ => rfl) rfl) (ea_cons (ee_bin op_addD (ee_var (i := 1) rfl (by first | exact .inl rfl | exact .inr (.inl rfl) | exact .inr (.inr rfl)) (by decide) (by decide)) (ee_var (i := 3) rfl (by first | exact .inl rfl | exact .inr (.inl rfl) | exact .inr (.inr rfl)) (by decide) (by decide))) ea_nil (fun _ _ => rfl)) (fun _ _ => rfl)))) (ee_call (fn__law_take h) (by decide) rfl (ea_cons (ee_var (i := 0) rfl (by first | exact .inl rfl | exact .inr (.inl rfl) | exact .inr (.inr rfl)) (by decide) (by decide)) (ea_cons ee_int ea_nil (fun _ _ => rfl)) (fun _ _ => rfl)) (fun _ _ => rfl) (fun _ => rfl) (by decide)) (fun _ _ => rfl)))
    es_nil)))))
theorem sc_is_name : FnScope ["thing", "sign"] ["thing"] (defScope s_is_name) := ⟨rfl, rfl, rfl, by decide +kernel, rfl, by decide +kernel, by decide +kernel⟩
def ce_is_name_1 : M Vl := (eP inD (cA (eV 1) (cA (eC (.str "abcdefghijklmnopqrstuvwxyz")) cN)))
def cp_is_name_1 : M Vl := eComp [1] (mStr (eV 0)) (gN 1) (rt true) ce_is_name_1
def b_is_name : SM := (sSeq (sIf (mOr (mNot (mB (eP isiD (cA (eV 0) (cA (eC (.ty "str")) cN))))) (mNot (mB (eChain leD leD (eC (.int 1)) (eP lenD (cA (eV 0) cN)) (eC (.int 6)))))) (sSeq (sRet (eC (.bl false)))
    sNil) sNil)
    (sSeq (sRet (eP allD (cA cp_is_name_1 cN)))
    sNil))
def F_is_name : Fs := ⟨runF [false] 2 b_is_name, [false]⟩
theorem fn_is_name {g : G0} (h : Hyp g) : FnI g "is_name" 1 F_is_name :=
  fn_rule h.d_is_name sc_is_name rfl (es_cons (es_if (et_w (ew_or (et_not (et_val (ee_callB ca_isi rfl h.z_isinstance bt_isinstance (ea_cons (ee_var (i := 0) rfl (by first | exact .inl rfl | exact .inr (.inl rfl) | exact .inr (.inr rfl)) (by decide) (by decide)) (ea_cons (ee_ty (n := "str") rfl h.z_str bt_str (by decide) (by decide)) ea_nil (fun _ _ => rfl)) (fun _ _ => rfl)) (fun _ _ => rfl) (fun _ => rfl) (by decide) (by decide)) (fun _ _ => rfl))) (ew_or1 (et_not (et_chain op_leD op_leD ee_int (ee_callB ca_len rfl h.z_len bt_len (ea_cons (ee_var (i := 0) rfl (by first | exact .inl rfl | exact .inr (.inl rfl) | exact .inr (.inr rfl)) (by decide) (by decide)) ea_nil (fun _ _ => rfl)) (fun _ _ => rfl) (fun _ => rfl) (by decide) (by decide)) (ee_gv (d := (.int 6)) rfl h.c_LONGEST (by decide)) rfl))))) (es_cons (es_ret ee_bl)
    es_nil) es_nil)
    (es_cons (es_ret (ee_callB ca_all rfl h.z_all bt_all (ea_cons (ee_comp (own := [("sign", 1)]) (by decide +kernel) (by decide) (by decide) (ei_str (ee_var (i := 0) rfl (by first | exact .inl rfl | exact .inr (.inl rfl) | exact .inr (.inr rfl)) (by decide) (by decide))) (eg_name (i := 1) rfl (by first | exact .inl rfl | exact .inr rfl) (by first | exact .inl rfl | exact .inr rfl)) ep_nil (ee_cmp op_inD' (ee_var (i := 1) rfl (by first | exact .inl rfl | exact .inr (.inl rfl) | exact .inr (.inr rfl)) (by decide) (by decide)) (ee_gv (d := (.str "abcdefghijklmnopqrstuvwxyz")) rfl h.c_LETTERS (by decide)) rfl) (fun _ _ => rfl)) ea_nil (fun _ _ => rfl)) (fun _ _ => rfl) (fun _ => rfl) (by decide) (by decide)))
    es_nil))
theorem sc__law_is : FnScope ["_law_thing", "_law_many", "_law_letter"] ["_law_thing"] (defScope s__law_is) := ⟨rfl, rfl, rfl, by decide +kernel, rfl, by decide +kernel, by decide +kernel⟩
def ce__law_is_1 : M Vl := (eM "str" countD (eV 0) (cA (eV 2) cN))
def cp__law_is_1 : M Vl := eComp [2] (mStr (eC (.str "abcdefghijklmnopqrstuvwxyz"))) (gN 2) (rt true) ce__law_is_1
def b__law_is : SM := (sSeq (sIf (mNot (mB (eP isiD (cA (eV 0) (cA (eC (.ty "str")) cN))))) (sSeq (sRet (eC (.bl false)))
    sNil) sNil)
    (sSeq (sAsg (eP sumD (cA cp__law_is_1 cN)) (gN 1))
    (sSeq (sRet (eAnd (eChain ltD ltD (eC (.int 0)) (eV 1) (eC (.int 7))) (eP eqD (cA (eV 1) (cA (eP lenD (cA (eV 0) cN)) cN)))))
    sNil)))
def F__law_is : Fs := ⟨runF [false] 3 b__law_is, [false]⟩
theorem fn__law_is {g : G0} (h : Hyp g) : FnI g "_law_is" 1 F__law_is :=
  fn_rule h.d__law_is sc__law_is rfl (es_cons (es_if (et_not (et_val (ee_callB ca_isi rfl h.z_isinstance bt_isinstance (ea_cons (ee_var (i := 0) rfl (by first | exact .inl rfl | exact .inr (.inl rfl) | exact .inr (.inr rfl)) (by decide) (by decide)) (ea_cons (ee_ty (n := "str") rfl h.z_str bt_str (by decide) (by decide)) ea_nil (fun _ _ => rfl)) (fun _ _ => rfl)) (fun _ _ => rfl) (fun _ => rfl) (by decide) (by decide)) (fun _ _ => rfl))) (es_cons (es_ret ee_bl)
    es_nil) es_nil)
    (es_cons (es_set (i := 1) rfl (by first | exact .inl rfl | exact .inr rfl) (ee_callB ca_sum rfl h.z_sum bt_sum (ea_cons (ee_comp (own := [("_law_letter", 2)]) (by decide +kernel) (by decide) (by decide) (ei_str (ee_str (by decide +kernel))) (eg_name (i := 2) rfl (by first | exact .inl rfl | exact .inr rfl) (by first | exact .inl rfl | exact .inr rfl)) ep_nil (ee_meth me_count (ee_var (i := 0) rfl (by first | exact .inl rfl | exact .inr (.inl rfl) | exact .inr (.inr rfl)) (by decide) (by decide)) (ea_cons (ee_var (i := 2) rfl (by first | exact .inl rfl | exact .inr (.inl rfl) | exact .inr (.inr rfl)) (by decide) (by decide)) ea_nil (fun _ _ => rfl)) (fun _ _ => rfl) (fun _ => rfl) (fun _ => rfl) rfl (fun _ => rfl)) (fun _ _ => rfl)) ea_nil (fun _ _ => rfl)) (fun _ _ => rfl) (fun _ => rfl) (by decide) (by decide)) (fun _ => rfl) (.inl rfl))
    (es_cons (es_ret (ee_and (ee_chain op_ltD op_ltD ee_int (ee_var (i := 1) rfl (by first | exact .inl rfl | exact .inr (.inl rfl) | exact .inr (.inr rfl)) (by decide) (by decide)) ee_int rfl) (ee_one (ee_cmp op_eqD' (ee_var (i := 1) rfl (by first | exact .inl rfl | exact .inr (.inl rfl) | exact .inr (.inr rfl)) (by decide) (by decide)) (ee_callB ca_len rfl h.z_len bt_len (ea_cons (ee_var (i := 0) rfl (by first | exact .inl rfl | exact .inr (.inl rfl) | exact .inr (.inr rfl)) (by decide) (by decide)) ea_nil (fun _ _ => rfl)) (fun _ _ => rfl) (fun _ => rfl) (by decide) (by decide)) rfl))))
    es_nil)))
theorem sc__law_right : FnScope ["_law_thing", "_law_kept", "_law_found", "_law_one"] ["_law_thing"] (defScope s__law_right) := ⟨rfl, rfl, rfl, by decide +kernel, rfl, by decide +kernel, by decide +kernel⟩
def ce__law_right_1 : M Vl := (eP isiD (cA (eV 3) (cA (eC (.ty "bool")) cN)))
def cp__law_right_1 : M Vl := eComp [3] (mLst (eV 2)) (gN 3) (rt true) ce__law_right_1
def b__law_right : SM := (sSeq (sAsg (eP reprD (cA (eV 0) cN)) (gN 1))
    (sSeq (sAsg (eLst (cA (eCall F_is_name (cA (eV 0) cN)) (cA (eCall F_is_name (cA (eV 0) cN)) cN))) (gN 2))
    (sSeq (sRet (eAnd (eP eqD (cA (eV 2) (cA (eP mulD (cA (eLst (cA (eCall F__law_is (cA (eV 0) cN)) cN)) (cA (eC (.int 2)) cN))) cN))) (eAnd (eP allD (cA cp__law_right_1 cN)) (eP eqD (cA (eP reprD (cA (eV 0) cN)) (cA (eV 1) cN))))))
    sNil)))
def F__law_right : Fs := ⟨runF [false] 4 b__law_right, [false]⟩
theorem fn__law_right {g : G0} (h : Hyp g) : FnI g "_law_right" 2 F__law_right :=
  fn_rule h.d__law_right sc__law_right rfl (es_cons (es_set (i := 1) rfl (by first | exact .inl rfl | exact .inr rfl) (ee_callB ca_repr rfl h.z_repr bt_repr (ea_cons (ee_var (i := 0) rfl (by first | exact .inl rfl | exact .inr (.inl rfl) | exact .inr (.inr rfl)) (by decide) (by decide)) ea_nil (fun _ _ => rfl)) (fun _ _ => rfl) (fun _ => rfl) (by decide) (by decide)) (fun _ => rfl) (.inl rfl))
    (es_cons (es_set (i := 2) rfl (by first | exact .inl rfl | exact .inr rfl) (ee_lst (ea_cons (ee_call (fn_is_name h) (by decide) rfl (ea_cons (ee_var (i := 0) rfl (by first | exact .inl rfl | exact .inr (.inl rfl) | exact .inr (.inr rfl)) (by decide) (by decide)) ea_nil (fun _ _ => rfl)) (fun _ _ => rfl) (fun _ => rfl) (by decide)) (ea_cons (ee_call (fn_is_name h) (by decide) rfl (ea_cons (ee_var (i := 0) rfl (by first | exact .inl rfl | exact .inr (.inl rfl) | exact .inr (.inr rfl)) (by decide) (by decide)) ea_nil (fun _ _ => rfl)) (fun _ _ => rfl) (fun _ => rfl) (by decide)) ea_nil (fun _ _ => rfl)) (fun _ _ => rfl))) (fun _ => rfl) (.inl rfl))
    (es_cons (es_ret (ee_and (ee_cmp op_eqD' (ee_var (i := 2) rfl (by first | exact .inl rfl | exact .inr (.inl rfl) | exact .inr (.inr rfl)) (by decide) (by decide)) (ee_bin op_mulD (ee_lst (ea_cons (ee_call (fn__law_is h) (by decide) rfl (ea_cons (ee_var (i := 0) rfl (by first | exact .inl rfl | exact .inr (.inl rfl) | exact .inr (.inr rfl)) (by decide) (by decide)) ea_nil (fun _ _ => rfl)) (fun _ _ => rfl) (fun _ => rfl) (by decide)) ea_nil (fun _ _ => rfl))) ee_int) rfl) (ee_and (ee_callB ca_all rfl h.z_all bt_all (ea_cons (ee_comp (own := [("_law_one", 3)]) (by decide +kernel) (by decide) (by decide) (ei_list (ee_var (i := 2) rfl (by first | exact .inl rfl | exact .inr (.inl rfl) | exact .inr (.inr rfl)) (by decide) (by decide))) (eg_name (i := 3) rfl (by first | exact .inl rfl | exact .inr rfl) (by first | exact .inl rfl | exact .inr rfl)) ep_nil (ee_callB ca_isi rfl h.z_isinstance bt_isinstance (ea_cons (ee_var (i := 3) rfl (by first | exact .inl rfl | exact .inr (.inl rfl) | exact .inr (.inr rfl)) (by decide) (by decide)) (ea_cons (ee_ty (n := "bool") rfl h.z_bool bt_bool (by decide) (by decide)) ea_nil (fun _ _ => rfl)) (fun _ _ => rfl)) (fun _ _ => rfl) (fun _ => rfl) (by decide) (by decide)) (fun _ _ => rfl)) ea_nil (fun _ _ => rfl)) (fun _ _ => rfl) (fun _ => rfl) (by decide) (by decide)) (ee_one (ee_cmp op_eqD' (ee_callB ca_repr rfl h.z_repr bt_repr (ea_cons (ee_var (i := 0) rfl (by first | exact .inl rfl | exact .inr (.inl rfl) | exact .inr (.inr rfl)) (by decide) (by decide)) ea_nil (fun _ _ => rfl)) (fun _ _ => rfl) (fun _ => rfl) (by decide) (by decide)) (ee_var (i := 1) rfl (by first | exact .inl rfl | exact .inr (.inl rfl) | exact .inr (.inr rfl)) (by decide) (by decide)) rfl)))))
    es_nil)))
theorem sc_law : FnScope ["_law_script", "_law_k", "_law_box_here", "_law_name_here", "_law_things", "_law_turn", "_law_thing"] ["_law_script"] (defScope s_law) := ⟨rfl, rfl, rfl, by decide +kernel, rfl, by decide +kernel, by decide +kernel⟩
def ce_law_1 : M Vl := (eCall F__law_right (cA (eV 6) cN))
def cp_law_1 : M Vl := eComp [6] (mLst (eV 4)) (gN 6) (rt true) ce_law_1
def fb_law_2 : SM := (sSeq (sExp (eU "list" appendD (eV 4) (cA (eCall F__law_bent (cA (eV 2) (cA (eIf (mAnd (mB (eP eqD (cA (eP modD (cA (eV 5) (cA (eC (.int 3)) cN))) (cA (eC (.int 2)) cN)))) (mB (eP isiD (cA (eP ixD (cA (eV 4) (cA (eP negD (cA (eC (.int 1)) cN)) cN))) (cA (eC (.ty "str")) cN))))) (eP ixD (cA (eV 4) (cA (eP negD (cA (eC (.int 1)) cN)) cN))) (eV 3)) cN))) cN)))
    sNil)
def fl_law_2 : SM := sFor (mR1 (cA (eC (.int 10)) cN)) (gN 5) fb_law_2
def fb_law_3 : SM := (sSeq (sAsg (eCall F__law_box (cA (eV 0) (cA (eV 1) cN))) (gN 2))
    (sSeq (sAsg (eCall F__law_name (cA (eV 2) cN)) (gN 3))
    (sSeq (sAsg (eLst (cA (eV 3) (cA (eC (.str "")) (cA (eP addD (cA (eV 3) (cA (eC (.str "abcdef")) cN))) (cA (eP mulD (cA (eV 3) (cA (eC (.int 40)) cN))) (cA (eLst (cA (eV 3) cN)) (cA (eTup (cA (eV 3) cN)) (cA (eTup (cA (eV 3) (cA (eV 3) cN))) (cA (eC .non) (cA (eC (.bl true)) (cA (eC (.bl false)) (cA (eC (.int 0)) (cA (eC (.int 7)) (cA (eLst cN) cN)))))))))))))) (gN 4))
    (sSeq fl_law_2
    (sSeq (sIf (mOr (mNot (mB (eP allD (cA cp_law_1 cN)))) (mB (eP isnD (cA (eCall F_is_name (cA (eV 3) cN)) (cA (eC (.bl true)) cN))))) (sSeq (sRet (eC (.bl false)))
    sNil) sNil)
    sNil)))))
def fl_law_3 : SM := sFor (mR1 (cA (eP addD (cA (eC (.int 1)) (cA (eP minD (cA (eC (.int 12)) (cA (eP lenD (cA (eV 0) cN)) cN))) cN))) cN)) (gN 1) fb_law_3
def b_law : SM := (sSeq fl_law_3
    (sSeq (sRet (eC (.bl true)))
    sNil))
def F_law : Fs := ⟨runF [false] 7 b_law, [false]⟩
theorem fg_law {g : G0} (h : Hyp g) {f : Addr} {fd : FuncData} (hf : Fun g.K "law" "law" s_law f fd) : FnG g 3 f fd ["_law_script"] (spF g.K F_law) :=
  fn_at hf sc_law rfl (es_cons (es_for (ei_r1 rfl h.z_range (ea_cons (ee_bin op_addD ee_int (ee_callB ca_min rfl h.z_min bt_min (ea_cons ee_int (ea_cons (ee_callB ca_len rfl h.z_len bt_len (ea_cons (ee_var (i := 0) rfl (by first | exact .inl rfl | exact .inr (.inl rfl) | exact .inr (.inr rfl)) (by decide) (by decide)) ea_nil (fun _ _ => rfl)) (fun _ _ => rfl) (fun _ => rfl) (by decide) (by decide)) ea_nil (fun _ _ => rfl)) (fun _ _ => rfl)) (fun _ _ => rfl) (fun _ => rfl) (by decide) (by decide))) ea_nil (fun _ _ => rfl)) (fun _ _ => rfl)) (eg_name (i := 1) rfl (by first | exact .inl rfl | exact .inr rfl) (by first | exact .inl rfl | exact .inr rfl)) (es_cons (es_set (i := 2) rfl (by first | exact .inl rfl | exact .inr rfl) (ee_call (fn__law_box h) (by decide) rfl (ea_cons (ee_var (i := 0) rfl (by first | exact .inl rfl | exact .inr (.inl rfl) | exact .inr (.inr rfl)) (by decide) (by decide)) (ea_cons (ee_var (i := 1) rfl (by first | exact .inl rfl | exact .inr (.inl rfl) | exact .inr (.inr rfl)) (by decide) (by decide)) ea_nil (fun _ _ => rfl)) (fun _ _ => rfl)) (fun _ _ => rfl) (fun _ => rfl) (by decide)) (fun _ => rfl) (.inl rfl))
    (es_cons (es_set (i := 3) rfl (by first | exact .inl rfl | exact .inr rfl) (ee_call (fn__law_name h) (by decide) rfl (ea_cons (ee_var (i := 2) rfl (by first | exact .inl rfl | exact .inr (.inl rfl) | exact .inr (.inr rfl)) (by decide) (by decide)) ea_nil (fun _ _ => rfl)) (fun _ _ => rfl) (fun _ => rfl) (by decide)) (fun _ => rfl) (.inl rfl))
    (es_cons (es_set (i := 4) rfl (by first | exact .inl rfl | exact .inr rfl) (ee_lst (ea_cons (ee_var (i := 3) rfl (by first | exact .inl rfl | exact .inr (.inl rfl) | exact .inr (.inr rfl)) (by decide) (by decide)) (ea_cons (ee_str (by decide +kernel)) (ea_cons (ee_bin op_addD (ee_var (i := 3) rfl (by first | exact .inl rfl | exact .inr (.inl rfl) | exact .inr (.inr rfl)) (by decide) (by decide)) (ee_str (by decide +kernel))) (ea_cons (ee_bin op_mulD (ee_var (i := 3) rfl (by first | exact .inl rfl | exact .inr (.inl rfl) | exact .inr (.inr rfl)) (by decide) (by decide)) ee_int) (ea_cons (ee_lst (ea_cons (ee_var (i := 3) rfl (by first | exact .inl rfl | exact .inr (.inl rfl) | exact .inr (.inr rfl)) (by decide) (by decide)) ea_nil (fun _ _ => rfl))) (ea_cons (ee_tup (ea_cons (ee_var (i := 3) rfl (by first | exact .inl rfl | exact .inr (.inl rfl) | exact .inr (.inr rfl)) (by decide) (by decide)) ea_nil (fun _ _ => rfl))) (ea_cons (ee_tup (ea_cons (ee_var (i := 3) rfl (by first | exact .inl rfl | exact .inr (.inl rfl) | exact .inr (.inr rfl)) (by decide) (by decide)) (ea_cons (ee_var (i := 3) rfl (by first | exact .inl rfl | exact .inr (.inl rfl) | exact .inr (.inr rfl)) (by decide) (by decide)) ea_nil (fun _ _ => rfl)) (fun _ _ => rfl))) (ea_cons ee_non (ea_cons ee_bl (ea_cons ee_bl (ea_cons ee_int (ea_cons ee_int (ea_cons (ee_lst ea_nil) ea_nil (fun _ _ => rfl)) (fun _ _ => rfl)) (fun _ _ => rfl)) (fun _ _ => rfl)) (fun _ _ => rfl)) (fun _ _ => rfl)) (fun _ _ => rfl)) (fun _ _ => rfl)) (fun _ _ => rfl)) (fun _ _ => rfl)) (fun _ _ => rfl)) (fun _ _ => rfl)) (fun _ _ => rfl))) (fun _ => rfl) (.inl rfl))
    (es_cons (es_for (ei_r1 rfl h.z_range (ea_cons ee_int ea_nil (fun _ _ => rfl)) (fun _ _ => rfl)) (eg_name (i := 5) rfl (by first | exact .inl rfl | exact .inr rfl) (by first | exact .inl rfl | exact .inr rfl)) (es_cons (es_exp (ee_mut mu_append (ee_var (i := 4) rfl (by first | exact .inl rfl | exact .inr (.inl rfl) | exact .inr (.inr rfl)) (by decide) (by decide)) (ea_cons (ee_call (fn__law_bent h) (by decide) rfl (ea_cons (ee_var (i := 2) rfl (by first | exact .inl rfl | exact .inr (.inl rfl) | exact .inr (.inr rfl)) (by decide) (by decide)) (ea_cons (ee_if (et_w (ew_and (et_cmp op_eqD' (ee_bin op_modD (ee_var (i := 5) rfl (by first | exact .inl rfl | exact .inr (.inl rfl) | exact .inr (.inr rfl)) (by decide) (by decide)) ee_int) ee_int rfl) (ew_and1 (et_val (ee_callB ca_isi rfl h.z_isinstance bt_isinstance (ea_cons (ee_ix (ee_var (i := 4) rfl (by first | exact .inl rfl | exact .inr (.inl rfl) | exact .inr (.inr rfl)) (by decide) (by decide)) (ee_un un_negD ee_int) (fun _ _ => rfl)) (ea_cons (ee_ty (n := "str") rfl h.z_str bt_str (by decide) (by decide)) ea_nil (fun _ _ => rfl)) (fun _ _ => rfl)) (fun _ _ => rfl) (fun _ => rfl) (by decide) (by decide)) (fun _ _ => rfl))))) (ee_ix (ee_var (i := 4) rfl (by first | exact .inl rfl | exact .inr (.inl rfl) | exact .inr (.inr rfl)) (by decide) (by decide)) (ee_un un_negD ee_int) (fun _ _ => rfl)) (ee_var (i := 3) rfl (by first | exact .inl rfl | exact .inr (.inl rfl) | exact .inr (.inr rfl)) (by decide) (by decide))) ea_nil (fun _ _ => rfl)) (fun _ _ => rfl)) (fun _ _ => rfl) (fun _ => rfl) (by decide)) ea_nil (fun _ _ => rfl)) (fun _ _ => rfl) (fun _ => rfl) (fun _ => rfl) rfl (fun _ => rfl)) (fun _ => rfl))
    es_nil) (fun _ _ => rfl))
    (es_cons (es_if (et_w (ew_or (et_not (et_val (ee_callB ca_all rfl h.z_all bt_all (ea_cons (ee_comp (own := [("_law_thing", 6)]) (by decide +kernel) (by decide) (by decide) (ei_list (ee_var (i := 4) rfl (by first | exact .inl rfl | exact .inr (.inl rfl) | exact .inr (.inr rfl)) (by decide) (by decide))) (eg_name (i := 6) rfl (by first | exact .inl rfl | exact .inr rfl) (by first | exact .inl rfl | exact .inr rfl)) ep_nil (ee_call (fn__law_right h) (by decide) rfl (ea_cons (ee_var (i := 6) rfl (by first | exact .inl rfl | exact .inr (.inl rfl) | exact .inr (.inr rfl)) (by decide) (by decide)) ea_nil (fun _ _ => rfl)) (fun _ _ => rfl) (fun _ => rfl) (by decide)) (fun _ _ => rfl)) ea_nil (fun _ _ => rfl)) (fun _ _ => rfl) (fun _ => rfl) (by decide) (by decide)) (fun _ _ => rfl))) (ew_or1 (et_cmp op_isnD (ee_call (fn_is_name h) (by decide) rfl (ea_cons (ee_var (i := 3) rfl (by first | exact .inl rfl | exact .inr (.inl rfl) | exact .inr (.inr rfl)) (by decide) (by decide)) ea_nil (fun _ _ => rfl)) (fun _ _ => rfl) (fun _ => rfl) (by decide)) ee_bl rfl)))) (es_cons (es_ret ee_bl)
    es_nil) es_nil)
    es_nil))))) (fun _ _ => rfl))
    (es_cons (es_ret ee_bl)
    es_nil))
end L_k01
namespace L_k01
open PySem PySem.Spec PyProof.Rows L2 PD


theorem box_sem (ns : List Int) (k : Nat) (hk : k ≤ 100) : ∃ a b : Int, F__law_box.sem [.sc ns, .int k] = some (.fr (.lst [.int a, .int b, .int 0]), [.sc ns, .int k]) ∧ 0 ≤ a ∧ 0 ≤ b ∧ b < 2 ^ 33 := by
  have key : ∀ c : Int, ∃ a b : Int, (sRet (eLst (cA (eP mulD (cA (eP absD (cA (eV 2) cN)) (cA (eP intD (cA (eP geD (cA (eP absD (cA (eV 2) cN)) (cA (eP powD (cA (eC (.int 10)) (cA (eC (.int 18)) cN))) cN))) cN)) cN))) (cA (eP addD (cA (eP addD (cA (eP modD (cA (eV 2) (cA (eC (.int 2147483629)) cN))) (cA (eP mulD (cA (eC (.int 7919)) (cA (eV 1) cN))) cN))) (cA (eC (.int 11)) cN))) (cA (eC (.int 0)) cN))))) [.im (.sc ns), .im (.int k), .im (.int c)] = some (.rt (.fr (.lst [.int a, .int b, .int 0])), [.im (.sc ns), .im (.int k), .im (.int c)]) ∧ 0 ≤ a ∧ 0 ≤ b ∧ b < 2 ^ 33 := by
    intro c
    have h1 : 0 ≤ Int.fmod c 2147483629 := Int.fmod_nonneg_of_pos c (by decide)
    have h2 : Int.fmod c 2147483629 < 2147483629 := Int.fmod_lt_of_pos c (by decide)
    have s3 : small 3 = true := small_lit (by decide)
    refine ⟨(if c < 0 then -c else c) * (if (10 ^ 18 : Int) ≤ (if c < 0 then -c else c) then 1 else 0), Int.fmod c 2147483629 + 7919 * k + 11, ?_, ?_, ?_, ?_⟩
    · have h4 : ∀ p : Prop, ∀ [Decidable p], s64 (if p then (1 : Int) else 0) = true := fun p _ => by split <;> decide
      have h5 : s64 (7919 : Int) = true := by decide
      simp [runF, mkE, sSeq, sAsg, sIf, sRet, sRetN, sExp, sNil, sPar, sPar3, sPass, sBrk, sCnt, eV, eC, eP, eTup, eLst, eIf, eAnd, eOr, eNot, mB, mNot, mAnd, mOr, cA, cN, bd, rt, PD.cnt, PD.cnts, frz, frzs, Vl.hold, gN, gS, gT, gsC, gsN, outE, retV, mutAtD, putC, setD, addD, subD, mulD, divD, modD, powD, negD, ltD, leD, gtD, geD, lenD, absD, minD, maxD, PD.intD, ixD, eChain, isnD, isD, ckT, tyT, eM, eU, appendD, popD, reverseD, extendD, eSl, oN, oS, slD, callE, eCall, frzA, ioAll, ioIx, brIx, mutAt, updE, disj, nmOut, Vl.nm, D.nmC, Sl.mut, s3, h4, h5]
    · have : (0 : Int) ≤ (if c < 0 then -c else c) := by split <;> omega
      have : (0 : Int) ≤ (if (10 ^ 18 : Int) ≤ (if c < 0 then -c else c) then 1 else 0) := by split <;> omega
      exact Int.mul_nonneg (by assumption) (by assumption)
    · omega
    · omega
  by_cases hc : k < ns.length
  · obtain ⟨a, b, h1, h2, h3, h4⟩ := key ns[k]
    refine ⟨a, b, ?_, h2, h3, h4⟩
    have hi : atI ns (k : Int) = some ns[k] := at_nat (List.getElem?_eq_getElem hc)
    have hk' : (k : Int) < ns.length := by omega
    simp only [F__law_box, b__law_box]
    generalize (sRet _) = R at h1 ⊢
    simp [runF, mkE, sSeq, sAsg, sIf, sRet, sRetN, sExp, sNil, sPar, sPar3, sPass, sBrk, sCnt, eV, eC, eP, eTup, eLst, eIf, eAnd, eOr, eNot, mB, mNot, mAnd, mOr, cA, cN, bd, rt, PD.cnt, PD.cnts, frz, frzs, Vl.hold, gN, gS, gT, gsC, gsN, outE, retV, mutAtD, putC, setD, addD, subD, mulD, divD, modD, powD, negD, ltD, leD, gtD, geD, lenD, absD, minD, maxD, PD.intD, ixD, eChain, isnD, isD, ckT, tyT, eM, eU, appendD, popD, reverseD, extendD, eSl, oN, oS, slD, callE, eCall, frzA, ioAll, ioIx, brIx, mutAt, updE, disj, nmOut, Vl.nm, D.nmC, Sl.mut, hi, hk', h1]
  · obtain ⟨a, b, h1, h2, h3, h4⟩ := key 0
    refine ⟨a, b, ?_, h2, h3, h4⟩
    have hk' : ¬ (k : Int) < ns.length := by omega
    simp only [F__law_box, b__law_box]
    generalize (sRet _) = R at h1 ⊢
    simp [runF, mkE, sSeq, sAsg, sIf, sRet, sRetN, sExp, sNil, sPar, sPar3, sPass, sBrk, sCnt, eV, eC, eP, eTup, eLst, eIf, eAnd, eOr, eNot, mB, mNot, mAnd, mOr, cA, cN, bd, rt, PD.cnt, PD.cnts, frz, frzs, Vl.hold, gN, gS, gT, gsC, gsN, outE, retV, mutAtD, putC, setD, addD, subD, mulD, divD, modD, powD, negD, ltD, leD, gtD, geD, lenD, absD, minD, maxD, PD.intD, ixD, eChain, isnD, isD, ckT, tyT, eM, eU, appendD, popD, reverseD, extendD, eSl, oN, oS, slD, callE, eCall, frzA, ioAll, ioIx, brIx, mutAt, updE, disj, nmOut, Vl.nm, D.nmC, Sl.mut, hk', h1]
def Bx (n : Nat) (l : D) : Prop := ∃ a b j : Int, l = .lst [.int a, .int b, .int j] ∧ 0 ≤ a ∧ 0 ≤ b ∧ b < 2 ^ 33 ∧ 0 ≤ j ∧ j ≤ n
theorem take_sem {n : Nat} {l : D} (h : Bx n l) (hn : n < 2 ^ 30) (m : Int) (hm : 0 < m) (hm2 : m < 2 ^ 30) : ∃ (r : Int) (l' : D), F__law_take.sem [l, .int m] = some (.im (.int r), [l', .int m]) ∧ 0 ≤ r ∧ r < m ∧ Bx (n + 1) l' := by
  obtain ⟨a, b, j, rfl, ha, hb, hb2, hj, hj2⟩ := h
  by_cases h0 : 0 < a
  · refine ⟨Int.fmod a m, .lst [.int (Int.fdiv a m), .int b, .int j], ?_, Int.fmod_nonneg_of_pos a hm, Int.fmod_lt_of_pos a hm, Int.fdiv a m, b, j, rfl, Int.fdiv_nonneg ha (by omega), hb, hb2, hj, by omega⟩
    have m0 : m ≠ 0 := by omega
    have m1 : m.natAbs < 1073741824 := by omega
    simp [F__law_take, b__law_take, runF, mkE, sSeq, sAsg, sIf, sRet, sRetN, sExp, sNil, sPar, sPar3, sPass, sBrk, sCnt, eV, eC, eP, eTup, eLst, eIf, eAnd, eOr, eNot, mB, mNot, mAnd, mOr, cA, cN, bd, rt, PD.cnt, PD.cnts, frz, frzs, Vl.hold, gN, gS, gT, gsC, gsN, outE, retV, mutAtD, putC, setD, addD, subD, mulD, divD, modD, powD, negD, ltD, leD, gtD, geD, lenD, absD, minD, maxD, PD.intD, ixD, eChain, isnD, isD, ckT, tyT, eM, eU, appendD, popD, reverseD, extendD, eSl, oN, oS, slD, callE, eCall, frzA, ioAll, ioIx, brIx, mutAt, updE, disj, nmOut, Vl.nm, D.nmC, Sl.mut, h0, m0, m1, L2.atI, ixN]
  · let o : Int := Int.fmod ((b + 39373 * (j + 1)) ^ 5) 2147483647
    refine ⟨Int.fmod (Int.fdiv (Int.fmod (o * (Int.fmod o 40009 + 7) + (j + 1) * 7919) 2147483629) 64) m, .lst [.int a, .int b, .int (j + 1)], ?_, Int.fmod_nonneg_of_pos _ hm, Int.fmod_lt_of_pos _ hm, a, b, j + 1, rfl, ha, hb, hb2, by omega, by omega⟩
    have m0 : m ≠ 0 := by omega
    have e1 : (b + 39373 * (j + 1)).natAbs < 2 ^ 64 := by omega
    have e2 : s64 (39373 : Int) = true := by decide
    have e3 : s64 (7919 : Int) = true := by decide
    have e4 : s64 (Int.fmod o 40009 + 7) = true := by
      have h1 : 0 ≤ Int.fmod o 40009 := Int.fmod_nonneg_of_pos _ (by decide)
      have h2 : Int.fmod o 40009 < 40009 := Int.fmod_lt_of_pos _ (by decide)
      simp only [s64, Bool.and_eq_true, decide_eq_true_eq]
      omega
    have e4' : s64 ((((b + 39373 * (j + 1)) ^ 5).fmod 2147483647).fmod 40009 + 7) = true := e4
    simp [F__law_take, b__law_take, runF, mkE, sSeq, sAsg, sIf, sRet, sRetN, sExp, sNil, sPar, sPar3, sPass, sBrk, sCnt, eV, eC, eP, eTup, eLst, eIf, eAnd, eOr, eNot, mB, mNot, mAnd, mOr, cA, cN, bd, rt, PD.cnt, PD.cnts, frz, frzs, Vl.hold, gN, gS, gT, gsC, gsN, outE, retV, mutAtD, putC, setD, addD, subD, mulD, divD, modD, powD, negD, ltD, leD, gtD, geD, lenD, absD, minD, maxD, PD.intD, ixD, eChain, isnD, isD, ckT, tyT, eM, eU, appendD, popD, reverseD, extendD, eSl, oN, oS, slD, callE, eCall, frzA, ioAll, ioIx, brIx, mutAt, updE, disj, nmOut, Vl.nm, D.nmC, Sl.mut, h0, m0, e1, e2, e3, e4', L2.atI, ixN]
    rfl
theorem sig_take : F__law_take.sig = [true, false] := rfl
/-- a name's letters -/
def LT : List Nat := (Str.ofString "abcdefghijklmnopqrstuvwxyz").cps.toList
theorem LT_len : LT.length = 26 := by decide +kernel
theorem LT_nodup : LT.Nodup := by decide +kernel
theorem LT_low : ∀ c ∈ LT, c < 128 := by decide +kernel
theorem LT_small : small (Str.ofString "abcdefghijklmnopqrstuvwxyz").length = true := by decide +kernel
def Nm (x : Str) : Prop := ∃ cs : List Nat, x = ⟨cs.toArray⟩ ∧ 1 ≤ cs.length ∧ cs.length ≤ 6 ∧ ∀ c ∈ cs, c ∈ LT
theorem strsD_signs : ∀ cs : List Nat, strsD (cs.map fun c => D.str ⟨#[c]⟩) = some (cs.map fun c => (⟨#[c]⟩ : Str))
  | [] => rfl
  | c :: r => by
    show (strsD (r.map fun c => D.str ⟨#[c]⟩)).map ((⟨#[c]⟩ : Str) :: ·) = _
    rw [strsD_signs r]
    rfl
theorem sum_signs : ∀ cs : List Nat, ((cs.map fun c => (⟨#[c]⟩ : Str)).map (·.length)).sum = cs.length
  | [] => rfl
  | c :: r => by
    rw [List.map_cons, List.map_cons, List.sum_cons, sum_signs r, List.length_cons]
    show 1 + r.length = _
    omega
theorem join_sem (cs : List Nat) (h : cs.length ≤ 1000) (hc : ∀ c ∈ cs, c < 128) : joinD [.str (Str.ofString ""), .lst (cs.map fun c => D.str ⟨#[c]⟩)] = some (.im (.str ⟨cs.toArray⟩)) := by
  have e0 : (Str.ofString "").length = 0 := by decide +kernel
  have e1 : (cs.map fun c => (⟨#[c]⟩ : Str)).length = cs.length := List.length_map ..
  have e2 : Txt.join (Str.ofString "") (cs.map fun c => (⟨#[c]⟩ : Str)) = ⟨cs.toArray⟩ := txt_join_signs cs
  have e3 : PyData.strOk ⟨cs.toArray⟩ = true := ok_mem.mpr fun c h => Nat.lt_trans (hc c (by simpa using h)) (by decide)
  have e4 : cs.length ≤ 16777216 := by omega
  unfold joinD
  simp only [strsD_signs, sum_signs, e0, e2, e3, Nat.mul_zero, Nat.add_zero, e4, decide_true, Bool.and_self, if_true]
/-- the letters of a list of single signs -/
theorem signs_of : ∀ {ds ys : List D}, Paired (fun _ y => ∃ c ∈ LT, y = D.str ⟨#[c]⟩) ds ys → ∃ cs : List Nat, ys = cs.map (fun c => D.str ⟨#[c]⟩) ∧ (∀ c ∈ cs, c ∈ LT) ∧ cs.length = ds.length
  | _, _, .nil => ⟨[], rfl, fun _ h => by simp at h, rfl⟩
  | _, _, .cons h t => by
    obtain ⟨c, hc, rfl⟩ := h
    obtain ⟨cs, rfl, h2, h3⟩ := signs_of t
    exact ⟨c :: cs, rfl, fun d hd => by
      rcases List.mem_cons.mp hd with rfl | hd
      · exact hc
      · exact h2 d hd, by rw [List.length_cons, List.length_cons, h3]⟩
theorem letter_at (r : Int) (h0 : 0 ≤ r) (h1 : r < 26) : ∃ c ∈ LT, L2.atI (Str.ofString "abcdefghijklmnopqrstuvwxyz").cps.toList r = some c := by
  obtain ⟨c, hc, e⟩ := atI_in (l := LT) h0 (by rw [LT_len]; omega)
  exact ⟨c, hc, e⟩
theorem name_sem {n : Nat} {l : D} (h : Bx n l) (hn : n < 2 ^ 20) : ∃ (x : Str) (l' : D), F__law_name.sem [l] = some (.im (.str x), [l']) ∧ Nm x ∧ Bx (n + 8) l' := by
  obtain ⟨r1, l1, t1, a1, b1, B1⟩ := take_sem h (by omega) 6 (by decide) (by decide)
  obtain ⟨r2, l2, t2, a2, b2, B2⟩ := take_sem B1 (by omega) 3 (by decide) (by decide)
  obtain ⟨s, hs, s1, s6⟩ : ∃ s : Int, L2.atI [D.int 1, D.int 6, D.int (1 + r1)] r2 = some (.int s) ∧ 1 ≤ s ∧ s ≤ 6 := by
    have : r2 = 0 ∨ r2 = 1 ∨ r2 = 2 := by omega
    rcases this with rfl | rfl | rfl
    · exact ⟨1, rfl, by decide, by decide⟩
    · exact ⟨6, rfl, by decide, by decide⟩
    · exact ⟨1 + r1, rfl, by omega, by omega⟩
  have hi : in62 s = true := by
    simp only [in62, Bool.and_eq_true, decide_eq_true_eq]
    omega
  have s3 : small 3 = true := small_lit (by decide)
  have hlen : (rngD 0 s.toNat).length = s.toNat := by simp [rngD]
  obtain ⟨ys, e', h1, ⟨l3, B3, rfl⟩, h3⟩ := compL_inv (vs := [3]) (g := gN 3) (tt := rt true) (te := ce__law_name_1)
      (P := fun k e => ∃ l3, Bx k l3 ∧ e = [.io 0 l3, .im (.str (Str.ofString "abcdefghijklmnopqrstuvwxyz")), .im (.int s), .em]) (R := fun _ y => ∃ c ∈ LT, y = D.str ⟨#[c]⟩) (ds := rngD 0 s.toNat) (k := n + 2) (e := [.io 0 l2, .im (.str (Str.ofString "abcdefghijklmnopqrstuvwxyz")), .im (.int s), .em])
      (fun i d e hd hP => by
        obtain ⟨l3, B3, rfl⟩ := hP
        have hi := (List.getElem?_eq_some_iff.mp hd).1
        obtain ⟨r4, l4, t4, a4, b4, B4⟩ := take_sem B3 (by omega) 26 (by decide) (by decide)
        obtain ⟨c, hc, hx⟩ := letter_at r4 a4 b4
        refine ⟨[.io 0 l3, .im (.str (Str.ofString "abcdefghijklmnopqrstuvwxyz")), .im (.int s), .im d], _, .im (.str ⟨#[c]⟩), [.io 0 l4, .im (.str (Str.ofString "abcdefghijklmnopqrstuvwxyz")), .im (.int s), .im d], .str ⟨#[c]⟩, _, rfl, rfl, ?_, rfl, ⟨c, hc, rfl⟩, l4, B4, rfl⟩
        simp [ce__law_name_1, runF, mkE, sSeq, sAsg, sIf, sRet, sRetN, sExp, sNil, sPar, sPar3, sPass, sBrk, sCnt, eV, eC, eP, eTup, eLst, eIf, eAnd, eOr, eNot, mB, mNot, mAnd, mOr, cA, cN, bd, rt, PD.cnt, PD.cnts, frz, frzs, Vl.hold, gN, gS, gT, gsC, gsN, outE, retV, mutAtD, putC, setD, addD, subD, mulD, divD, modD, powD, negD, ltD, leD, gtD, geD, lenD, absD, minD, maxD, PD.intD, ixD, eChain, isnD, isD, ckT, tyT, eM, eU, appendD, popD, reverseD, extendD, eSl, oN, oS, slD, callE, eCall, frzA, ioAll, ioIx, brIx, mutAt, updE, disj, nmOut, Vl.nm, D.nmC, Sl.mut, sig_take, t4, hx, LT_small]) ⟨l2, B2, rfl⟩
  obtain ⟨cs, rfl, hcs, hcl⟩ := signs_of h3
  have hj := join_sem cs (by omega) (fun c hc => LT_low c (hcs c hc))
  have sm : small ((cs.map fun c => D.str ⟨#[c]⟩)).length = true := small_lit (by rw [List.length_map]; omega)
  have hcomp : cp__law_name_1 [.io 0 l2, .im (.str (Str.ofString "abcdefghijklmnopqrstuvwxyz")), .im (.int s), .em] =
      some (.fr (.lst (cs.map fun c => D.str ⟨#[c]⟩)), [.io 0 l3, .im (.str (Str.ofString "abcdefghijklmnopqrstuvwxyz")), .im (.int s), .em]) := by
    refine (eComp_of (e1 := [.io 0 l2, .im (.str (Str.ofString "abcdefghijklmnopqrstuvwxyz")), .im (.int s), .em]) ?_ rfl h1 sm).trans rfl
    simp [mR1, cA, cN, eV, bd, rt, cnts, PD.cnt, Vl.hold, hi]
  refine ⟨⟨cs.toArray⟩, l3, ?_, ⟨cs, rfl, by omega, by omega, hcs⟩, ?_⟩
  · simp [F__law_name, b__law_name, runF, mkE, sSeq, sAsg, sIf, sRet, sRetN, sExp, sNil, sPar, sPar3, sPass, sBrk, sCnt, eV, eC, eP, eTup, eLst, eIf, eAnd, eOr, eNot, mB, mNot, mAnd, mOr, cA, cN, bd, rt, PD.cnt, PD.cnts, frz, frzs, Vl.hold, gN, gS, gT, gsC, gsN, outE, retV, mutAtD, putC, setD, addD, subD, mulD, divD, modD, powD, negD, ltD, leD, gtD, geD, lenD, absD, minD, maxD, PD.intD, ixD, eChain, isnD, isD, ckT, tyT, eM, eU, appendD, popD, reverseD, extendD, eSl, oN, oS, slD, callE, eCall, frzA, ioAll, ioIx, brIx, mutAt, updE, disj, nmOut, Vl.nm, D.nmC, Sl.mut, sig_take, t1, t2, hs, hcomp, hj, s3]
  · obtain ⟨a, b, j, e, q⟩ := B3
    exact ⟨a, b, j, e, q.1, q.2.1, q.2.2.1, q.2.2.2.1, by have := q.2.2.2.2; omega⟩

end L_k01
namespace L_k01
open PySem PySem.Spec PyProof.Rows L2 PD
theorem isi_str (x : Str) : isiD [.str x, .ty "str"] = some (.im (.bl true)) := rfl
theorem isi_no {d : D} {t : String} (ht : tyN d = some t) (hs : tyIs t "str" = false) : isiD [d, .ty "str"] = some (.im (.bl false)) := by
  have k1 : knownT.contains "str" = true := by decide
  unfold isiD
  simp only [ht, k1, if_true, hs]
/-! ### is_name and the law's own reading of it -/
def low (x : Str) : Bool := x.cps.toList.all fun c => decide (c ∈ LT)
def isN (x : Str) : Bool := decide (1 ≤ x.length) && decide (x.length ≤ 6) && low x
theorem blsD_map {α : Type} (f : α → Bool) : ∀ l : List α, blsD (l.map fun a => D.bl (f a)) = some (l.map f)
  | [] => rfl
  | a :: r => by
    show (blsD (r.map fun a => D.bl (f a))).map (f a :: ·) = _
    rw [blsD_map f r]
    rfl
theorem intsD_mapf {α : Type} (f : α → Int) : ∀ l : List α, intsD (l.map fun a => D.int (f a)) = some (l.map f)
  | [] => rfl
  | a :: r => by
    show (intsD (r.map fun a => D.int (f a))).map (f a :: ·) = _
    rw [intsD_mapf f r]
    rfl
theorem is_name_str {n : Nat} {x : Str} (h : As n x) (hn : n ≤ 10000) : F_is_name.sem [.str x] = some (.im (.bl (isN x)), [.str x]) := by
  have sx : small x.length = true := small_lit (by have := h.1; omega)
  have k1 : knownT.contains "str" = true := by decide
  have k2 : tyIs "str" "str" = true := by decide
  by_cases h1 : (1 : Int) ≤ x.length
  · by_cases h2 : (x.length : Int) ≤ 6
    · have hc : cp_is_name_1 [.im (.str x), .em] = some (.fr (.lst (x.cps.toList.map fun c => D.bl (decide (c ∈ LT)))), [.im (.str x), .em]) := by
        have hm : compL [1] (gN 1) (rt true) ce_is_name_1 (chD x) [.im (.str x), .em] = some ((chD x).map (fun d => match d with | .str y => D.bl (Txt.contains (Str.ofString "abcdefghijklmnopqrstuvwxyz") y) | d => d), [.im (.str x), .em]) := by
          refine compL_map _ fun d hd => ?_
          obtain ⟨c, hc, rfl⟩ := List.mem_map.mp hd
          exact ⟨[.im (.str x), .im (.str ⟨#[c]⟩)], [.im (.str x), .im (.str ⟨#[c]⟩)], .im (.bl (Txt.contains (Str.ofString "abcdefghijklmnopqrstuvwxyz") ⟨#[c]⟩)), [.im (.str x), .im (.str ⟨#[c]⟩)], [.im (.str x), .im (.str ⟨#[c]⟩)], rfl, rfl, rfl, rfl, rfl⟩
        have e1 : (chD x).map (fun d => match d with | .str y => D.bl (Txt.contains (Str.ofString "abcdefghijklmnopqrstuvwxyz") y) | d => d) = x.cps.toList.map fun c => D.bl (decide (c ∈ LT)) := by
          unfold chD
          rw [List.map_map]
          refine List.map_congr_left fun c _ => ?_
          show D.bl (Txt.contains (Str.ofString "abcdefghijklmnopqrstuvwxyz") ⟨#[c]⟩) = _
          rw [contains_sign]
          rfl
        rw [e1] at hm
        exact (eComp_of (e1 := [.im (.str x), .em]) rfl rfl hm (by rw [List.length_map]; exact small_lit (by have h1 : x.cps.size ≤ n := h.1; simp; omega))).trans rfl
      have hl : isN x = x.cps.toList.all fun c => decide (c ∈ LT) := by
        unfold isN low
        rw [decide_eq_true (show 1 ≤ x.length by omega), decide_eq_true (show x.length ≤ 6 by omega)]
        rfl
      have hx : (blsD (x.cps.toList.map fun c => D.bl (decide (c ∈ LT)))) = some (x.cps.toList.map fun c => decide (c ∈ LT)) := blsD_map _ _
      have hy : ((x.cps.toList.map fun c => decide (c ∈ LT)).all id) = isN x := by
        rw [hl, List.all_map]
        rfl
      have ha : allD [.lst (x.cps.toList.map fun c => D.bl (decide (c ∈ LT)))] = some (.im (.bl (isN x))) := by
        unfold allD
        simp only [hx, hy, Option.map_some]
      generalize x.cps.toList.map (fun c => D.bl (decide (c ∈ LT))) = BL at hc ha
      simp [F_is_name, b_is_name, runF, mkE, sSeq, sAsg, sIf, sRet, sRetN, sExp, sNil, sPar, sPar3, sPass, sBrk, sCnt, eV, eC, eP, eTup, eLst, eIf, eAnd, eOr, eNot, mB, mNot, mAnd, mOr, cA, cN, bd, rt, PD.cnt, PD.cnts, frz, frzs, Vl.hold, gN, gS, gT, gsC, gsN, outE, retV, mutAtD, putC, setD, addD, subD, mulD, divD, modD, powD, negD, ltD, leD, gtD, geD, lenD, absD, minD, maxD, PD.intD, ixD, eChain, isnD, isD, ckT, tyT, eM, eU, appendD, popD, reverseD, extendD, eSl, oN, oS, slD, callE, eCall, frzA, ioAll, ioIx, brIx, mutAt, updE, disj, nmOut, Vl.nm, D.nmC, Sl.mut, isi_str, sx, h1, h2, hc, ha]
    · have hl : isN x = false := by
        unfold isN
        rw [decide_eq_false (show ¬ x.length ≤ 6 by omega)]
        simp
      simp [F_is_name, b_is_name, runF, mkE, sSeq, sAsg, sIf, sRet, sRetN, sExp, sNil, sPar, sPar3, sPass, sBrk, sCnt, eV, eC, eP, eTup, eLst, eIf, eAnd, eOr, eNot, mB, mNot, mAnd, mOr, cA, cN, bd, rt, PD.cnt, PD.cnts, frz, frzs, Vl.hold, gN, gS, gT, gsC, gsN, outE, retV, mutAtD, putC, setD, addD, subD, mulD, divD, modD, powD, negD, ltD, leD, gtD, geD, lenD, absD, minD, maxD, PD.intD, ixD, eChain, isnD, isD, ckT, tyT, eM, eU, appendD, popD, reverseD, extendD, eSl, oN, oS, slD, callE, eCall, frzA, ioAll, ioIx, brIx, mutAt, updE, disj, nmOut, Vl.nm, D.nmC, Sl.mut, isi_str, sx, h1, h2, hl]
  · have hl : isN x = false := by
      unfold isN
      rw [decide_eq_false (show ¬ 1 ≤ x.length by omega)]
      simp
    simp [F_is_name, b_is_name, runF, mkE, sSeq, sAsg, sIf, sRet, sRetN, sExp, sNil, sPar, sPar3, sPass, sBrk, sCnt, eV, eC, eP, eTup, eLst, eIf, eAnd, eOr, eNot, mB, mNot, mAnd, mOr, cA, cN, bd, rt, PD.cnt, PD.cnts, frz, frzs, Vl.hold, gN, gS, gT, gsC, gsN, outE, retV, mutAtD, putC, setD, addD, subD, mulD, divD, modD, powD, negD, ltD, leD, gtD, geD, lenD, absD, minD, maxD, PD.intD, ixD, eChain, isnD, isD, ckT, tyT, eM, eU, appendD, popD, reverseD, extendD, eSl, oN, oS, slD, callE, eCall, frzA, ioAll, ioIx, brIx, mutAt, updE, disj, nmOut, Vl.nm, D.nmC, Sl.mut, isi_str, sx, h1, hl]
theorem is_name_no {d : D} {t : String} (ht : tyN d = some t) (hs : tyIs t "str" = false) : F_is_name.sem [d] = some (.im (.bl false), [d]) := by
  have k1 : knownT.contains "str" = true := by decide
  simp [F_is_name, b_is_name, runF, mkE, sSeq, sAsg, sIf, sRet, sRetN, sExp, sNil, sPar, sPar3, sPass, sBrk, sCnt, eV, eC, eP, eTup, eLst, eIf, eAnd, eOr, eNot, mB, mNot, mAnd, mOr, cA, cN, bd, rt, PD.cnt, PD.cnts, frz, frzs, Vl.hold, gN, gS, gT, gsC, gsN, outE, retV, mutAtD, putC, setD, addD, subD, mulD, divD, modD, powD, negD, ltD, leD, gtD, geD, lenD, absD, minD, maxD, PD.intD, ixD, eChain, isnD, isD, ckT, tyT, eM, eU, appendD, popD, reverseD, extendD, eSl, oN, oS, slD, callE, eCall, frzA, ioAll, ioIx, brIx, mutAt, updE, disj, nmOut, Vl.nm, D.nmC, Sl.mut, isi_no ht hs]
theorem law_is_no {d : D} {t : String} (ht : tyN d = some t) (hs : tyIs t "str" = false) : F__law_is.sem [d] = some (.im (.bl false), [d]) := by
  have k1 : knownT.contains "str" = true := by decide
  simp [F__law_is, b__law_is, runF, mkE, sSeq, sAsg, sIf, sRet, sRetN, sExp, sNil, sPar, sPar3, sPass, sBrk, sCnt, eV, eC, eP, eTup, eLst, eIf, eAnd, eOr, eNot, mB, mNot, mAnd, mOr, cA, cN, bd, rt, PD.cnt, PD.cnts, frz, frzs, Vl.hold, gN, gS, gT, gsC, gsN, outE, retV, mutAtD, putC, setD, addD, subD, mulD, divD, modD, powD, negD, ltD, leD, gtD, geD, lenD, absD, minD, maxD, PD.intD, ixD, eChain, isnD, isD, ckT, tyT, eM, eU, appendD, popD, reverseD, extendD, eSl, oN, oS, slD, callE, eCall, frzA, ioAll, ioIx, brIx, mutAt, updE, disj, nmOut, Vl.nm, D.nmC, Sl.mut, isi_no ht hs]
end L_k01
namespace L_k01
open PySem PySem.Spec PyProof.Rows L2 PD
theorem law_is_comp (x L : Str) : compL [2] (gN 2) (rt true) ce__law_is_1 (chD L) [.im (.str x), .em, .em] = some (L.cps.toList.map (fun c => D.int (PyProof.Rows.cnt c x.cps.toList)), [.im (.str x), .em, .em]) := by
  have hm : compL [2] (gN 2) (rt true) ce__law_is_1 (chD L) [.im (.str x), .em, .em] = some ((chD L).map (fun d => match d with | .str y => D.int (Txt.count x y) | d => d), [.im (.str x), .em, .em]) := by
    refine compL_map _ fun d hd => ?_
    obtain ⟨c, hc, rfl⟩ := List.mem_map.mp hd
    exact ⟨[.im (.str x), .em, .im (.str ⟨#[c]⟩)], [.im (.str x), .em, .im (.str ⟨#[c]⟩)], .im (.int (Txt.count x ⟨#[c]⟩)), [.im (.str x), .em, .im (.str ⟨#[c]⟩)], [.im (.str x), .em, .im (.str ⟨#[c]⟩)], rfl, rfl, rfl, rfl, rfl⟩
  rw [hm]
  congr 2
  unfold chD
  rw [List.map_map]
  refine List.map_congr_left fun c _ => ?_
  show D.int (Txt.count x ⟨#[c]⟩) = _
  rw [count_cnt]
theorem eqB_int (i j : Int) : eqB (.int i) (.int j) = decide (i = j) := by
  show PyData.eqv (.int i) (.int j) = _
  unfold PyData.eqv
  rfl
theorem eqD_int (i j : Int) : eqD [.int i, .int j] = some (.im (.bl (decide (i = j)))) := by
  rw [← eqB_int]
  have : depB 64 (.int i) = true := decide_eq_true (by simp [D.py, PyData.depth])
  simp only [eqD, D.isPy, this, Bool.true_or, Bool.and_true, if_true]
theorem law_is_count (x : Str) (m : Nat) (hm : (x.cps.toList.countP fun c => decide (c ∈ LT)) = m) : (decide ((0 : Int) < (m : Int)) && decide ((m : Int) < 7) && decide ((m : Int) = x.length)) = isN x := by
  have e3 : low x = decide ((m : Int) = x.length) := by
    unfold low
    rw [Bool.eq_iff_iff, decide_eq_true_eq, List.all_eq_true]
    have : x.length = x.cps.toList.length := rfl
    rw [this, ← hm, Int.ofNat_inj, List.countP_eq_length]
  unfold isN
  rw [e3]
  by_cases h : (m : Int) = x.length
  · have : m = x.length := by omega
    rw [← this]
    simp only [decide_true, Bool.and_true]
    congr 1 <;> (apply decide_eq_decide.mpr; omega)
  · simp [h]
theorem law_is_str {n : Nat} {x : Str} (h : As n x) (hn : n ≤ 10000) : F__law_is.sem [.str x] = some (.im (.bl (isN x)), [.str x]) := by
  have sx : small x.length = true := small_lit (by have := h.1; omega)
  have hc : cp__law_is_1 [.im (.str x), .em, .em] = some (.fr (.lst (LT.map fun c => D.int (PyProof.Rows.cnt c x.cps.toList))), [.im (.str x), .em, .em]) :=
    (eComp_of (e1 := [.im (.str x), .em, .em]) rfl rfl (law_is_comp x _) (by rw [List.length_map]; exact small_lit (by decide +kernel))).trans rfl
  have hsum := count_of x.cps.toList LT LT_nodup
  obtain ⟨m, hm⟩ : ∃ m, (x.cps.toList.countP fun c => decide (c ∈ LT)) = m := ⟨_, rfl⟩
  rw [hm] at hsum
  have hfin := law_is_count x m hm
  have ha : sumD [.lst (LT.map fun c => D.int (PyProof.Rows.cnt c x.cps.toList))] = some (.im (.int m)) := by
    unfold sumD
    have := intsD_mapf (fun c => PyProof.Rows.cnt c x.cps.toList) LT
    simp only [this, Option.map_some, hsum]
  generalize (m : Int) = z at hfin ha
  generalize hxl : (x.length : Int) = xl at hfin
  generalize LT.map (fun c => D.int (PyProof.Rows.cnt c x.cps.toList)) = BL at hc ha
  by_cases h1 : (0 : Int) < z
  · by_cases h2 : z < 7
    · rw [decide_eq_true h1, decide_eq_true h2] at hfin
      have hfin : decide (z = xl) = isN x := hfin
      simp only [F__law_is, b__law_is]
      simp [runF, mkE, sSeq, sAsg, sIf, sRet, sRetN, sExp, sNil, sPar, sPar3, sPass, sBrk, sCnt, eV, eC, eP, eTup, eLst, eIf, eAnd, eOr, eNot, mB, mNot, mAnd, mOr, cA, cN, bd, rt, PD.cnt, PD.cnts, frz, frzs, Vl.hold, gN, gS, gT, gsC, gsN, outE, retV, mutAtD, putC, setD, addD, subD, mulD, divD, modD, powD, negD, ltD, leD, gtD, geD, lenD, absD, minD, maxD, PD.intD, ixD, eChain, isnD, isD, ckT, tyT, eM, eU, appendD, popD, reverseD, extendD, eSl, oN, oS, slD, callE, eCall, frzA, ioAll, ioIx, brIx, mutAt, updE, disj, nmOut, Vl.nm, D.nmC, Sl.mut, isi_str, sx, hxl, h1, h2, hc, ha, eqD_int, hfin]
    · rw [decide_eq_true h1, decide_eq_false h2] at hfin
      have hfin : isN x = false := hfin.symm
      simp [F__law_is, b__law_is, runF, mkE, sSeq, sAsg, sIf, sRet, sRetN, sExp, sNil, sPar, sPar3, sPass, sBrk, sCnt, eV, eC, eP, eTup, eLst, eIf, eAnd, eOr, eNot, mB, mNot, mAnd, mOr, cA, cN, bd, rt, PD.cnt, PD.cnts, frz, frzs, Vl.hold, gN, gS, gT, gsC, gsN, outE, retV, mutAtD, putC, setD, addD, subD, mulD, divD, modD, powD, negD, ltD, leD, gtD, geD, lenD, absD, minD, maxD, PD.intD, ixD, eChain, isnD, isD, ckT, tyT, eM, eU, appendD, popD, reverseD, extendD, eSl, oN, oS, slD, callE, eCall, frzA, ioAll, ioIx, brIx, mutAt, updE, disj, nmOut, Vl.nm, D.nmC, Sl.mut, isi_str, sx, hxl, h1, h2, hc, ha, eqD_int, hfin]
  · rw [decide_eq_false h1] at hfin
    have hfin : isN x = false := hfin.symm
    simp [F__law_is, b__law_is, runF, mkE, sSeq, sAsg, sIf, sRet, sRetN, sExp, sNil, sPar, sPar3, sPass, sBrk, sCnt, eV, eC, eP, eTup, eLst, eIf, eAnd, eOr, eNot, mB, mNot, mAnd, mOr, cA, cN, bd, rt, PD.cnt, PD.cnts, frz, frzs, Vl.hold, gN, gS, gT, gsC, gsN, outE, retV, mutAtD, putC, setD, addD, subD, mulD, divD, modD, powD, negD, ltD, leD, gtD, geD, lenD, absD, minD, maxD, PD.intD, ixD, eChain, isnD, isD, ckT, tyT, eM, eU, appendD, popD, reverseD, extendD, eSl, oN, oS, slD, callE, eCall, frzA, ioAll, ioIx, brIx, mutAt, updE, disj, nmOut, Vl.nm, D.nmC, Sl.mut, isi_str, sx, hxl, h1, hc, ha, eqD_int, hfin]
end L_k01
namespace L_k01
open PySem PySem.Spec PyProof.Rows L2 PD
theorem sig_is_name : F_is_name.sig = [false] := rfl
theorem sig_law_is : F__law_is.sig = [false] := rfl
theorem sig_right : F__law_right.sig = [false] := rfl
theorem sig_bent : F__law_bent.sig = [true, false] := rfl
theorem sig_box : F__law_box.sig = [false, false] := rfl
theorem sig_name : F__law_name.sig = [true] := rfl
theorem s1 : small 1 = true := small_lit (by decide)
theorem s2 : small 2 = true := small_lit (by decide)
theorem s4 : small 4 = true := small_lit (by decide)
theorem s6 : small 6 = true := small_lit (by decide)
theorem eqD_bb (a : Bool) : eqD [.lst [.bl a, .bl a], .lst [.bl a, .bl a]] = some (.im (.bl true)) := by
  cases a <;> rfl
theorem mul_bb (a : Bool) : mulD [.lst [.bl a], .int 2] = some (.fr (.lst [.bl a, .bl a])) := rfl
theorem right_comp (d : D) (s : Str) (b : Bool) : cp__law_right_1 [.im d, .im (.txt s), .ow (.lst [.bl b, .bl b]), .em] = some (.fr (.lst [.bl true, .bl true]), [.im d, .im (.txt s), .im (.lst [.bl b, .bl b]), .em]) := rfl
theorem all_tt : allD [.lst [.bl true, .bl true]] = some (.im (.bl true)) := rfl
theorem eqD_txt (s : Str) : eqD [.txt s, .txt s] = some (.im (.bl true)) := by
  unfold eqD
  simp
theorem right_sem {d : D} {b : Bool} (hi : F_is_name.sem [d] = some (.im (.bl b), [d])) (hl : F__law_is.sem [d] = some (.im (.bl b), [d])) (hr : (d.shw && small d.wt && depB 60 d) = true) : F__law_right.sem [d] = some (.im (.bl true), [d]) := by
  have e1 : reprD [d] = some (.im (.txt d.py.shown)) := by
    simp only [reprD, hr, if_true]
  generalize d.py.shown = sh at e1
  simp [F__law_right, b__law_right, runF, mkE, sSeq, sAsg, sIf, sRet, sRetN, sExp, sNil, sPar, sPar3, sPass, sBrk, sCnt, eV, eC, eP, eTup, eLst, eIf, eAnd, eOr, eNot, mB, mNot, mAnd, mOr, cA, cN, bd, rt, PD.cnt, PD.cnts, frz, frzs, Vl.hold, gN, gS, gT, gsC, gsN, outE, retV, mutAtD, putC, setD, addD, subD, divD, modD, powD, negD, ltD, leD, gtD, geD, lenD, absD, minD, maxD, PD.intD, ixD, eChain, isnD, isD, ckT, tyT, eM, eU, appendD, popD, reverseD, extendD, eSl, oN, oS, slD, callE, eCall, frzA, ioAll, ioIx, brIx, mutAt, updE, disj, nmOut, Vl.nm, D.nmC, Sl.mut, sig_is_name, sig_law_is, hi, hl, e1, s1, s2, mul_bb, eqD_bb, right_comp, all_tt, eqD_txt]
def SG : Str := Str.ofString " !\"#$&'()*+,-./0123456789:;<=>?@ABCDEFGHIJKLMNOPQRSTUVWXYZ[\\]^_`abcdefghijklmnopqrstuvwxyz{|}~\n\t"
theorem SG_len : SG.length = 96 := by decide +kernel
theorem SG_low : ∀ c ∈ SG.cps.toList, c < 128 := by decide +kernel
theorem _root_.PD.As.small {n : Nat} {x : Str} (h : As n x) (hn : n ≤ 1000000) : PD.small x.length = true := small_lit (by have := h.1; omega)
theorem _root_.PD.As.small2 {n m : Nat} {x y : Str} (h : As n x) (h' : As m y) (hn : n + m ≤ 1000000) : PD.small (x.length + y.length) = true := small_lit (by have := h.1; have := h'.1; omega)
theorem cut_len (x : Str) (lo hi : Option Int) : (cutS x lo hi).length = min (HT.sIx x.length x.length hi - HT.sIx x.length 0 lo) (x.length - HT.sIx x.length 0 lo) := by
  show ((x.cps.toList.drop (HT.sIx x.length 0 lo)).take (HT.sIx x.length x.length hi - HT.sIx x.length 0 lo)).toArray.size = _
  simp
  rfl
theorem bent_sem {n j : Nat} {l : D} {y : Str} (h : Bx j l) (hj : j < 2 ^ 20) (hy : As n y) (hn : n ≤ 1000) : ∃ (x : Str) (l' : D), F__law_bent.sem [l, .str y] = some (.im (.str x), [l', .str y]) ∧ As (n + 1) x ∧ Bx (j + 3) l' := by
  have hy1 := hy.1
  obtain ⟨r1, l1, t1, a1, b1, B1⟩ := take_sem h (by omega) (SG.length : Int) (by rw [SG_len]; decide) (by rw [SG_len]; decide)
  obtain ⟨r2, l2, t2, a2, b2, B2⟩ := take_sem B1 (by omega) ((y.length : Int) + 1) (by omega) (by omega)
  obtain ⟨r3, l3, t3, a3, b3, B3⟩ := take_sem B2 (by omega) 6 (by decide) (by decide)
  obtain ⟨c, hc, hx⟩ := atI_in (l := SG.cps.toList) a1 (by rw [show SG.cps.toList.length = SG.length from rfl]; exact b1)
  have sSG : PD.small SG.length = true := by rw [SG_len]; exact small_lit (by decide)
  have A1 : As 1 ⟨#[c]⟩ := .one (SG_low c hc) (by decide)
  have ca := hy.cut none (some r2)
  have cb := hy.cut (some r2) none
  have cb1 := cb.cut (some 1) none
  have cb0 := cb.cut none (some 1)
  obtain ⟨k, rfl⟩ := Int.eq_ofNat_of_zero_le a2
  have f1 := cut_len y none (some (k : Int))
  have f2 := cut_len y (some (k : Int)) none
  have f3 := cut_len (cutS y (some (k : Int)) none) (some ((1 : Nat) : Int)) none
  have f4 := cut_len (cutS y (some (k : Int)) none) none (some ((1 : Nat) : Int))
  simp only [HT.sIx_nat, HT.sIx_none] at f1 f2 f3 f4
  have la : (cutS y none (some (k : Int))).length + (cutS y (some (k : Int)) none).length ≤ n := by omega
  have la1 : (cutS (cutS y (some (k : Int)) none) (some 1) none).length ≤ (cutS y (some (k : Int)) none).length := by
    show (cutS (cutS y (some (k : Int)) none) (some ((1 : Nat) : Int)) none).length ≤ _
    omega
  have la0 : (cutS y none (some (k : Int))).length + (cutS (cutS y (some (k : Int)) none) none (some 1)).length + (cutS y (some (k : Int)) none).length ≤ n + 1 := by
    show (cutS y none (some (k : Int))).length + (cutS (cutS y (some (k : Int)) none) none (some ((1 : Nat) : Int))).length + (cutS y (some (k : Int)) none).length ≤ n + 1
    omega
  clear f1 f2 f3 f4
  generalize hA : cutS y none (some (k : Int)) = a at *
  generalize hB : cutS y (some (k : Int)) none = b at *
  generalize hB1 : cutS b (some 1) none = bb1 at *
  generalize hB0 : cutS b none (some 1) = bb0 at *
  have lo : ∀ {x : Str} {k : Nat}, As k x → x.length ≤ n + 1 → As (n + 1) x := fun h h' => ⟨h', h.2⟩
  have e1 := (ca.app A1)
  have S0 := hy.small (by omega)
  have S1 := ca.small2 A1 (by omega)
  have S2 := e1.small2 cb (by omega)
  have S3 := e1.small2 cb1 (by omega)
  have S4 := ca.small2 cb1 (by omega)
  have S5 := ca.small2 cb0 (by omega)
  have S6 := (ca.app cb0).small2 cb (by omega)
  have S7 := hy.small2 A1 (by omega)
  have S8 := cb.small (by omega)
  have l1 : (⟨#[c]⟩ : Str).length = 1 := rfl
  have hu : upperD [.str y] = some (.im (.str (Txt.upper y))) := by
    have h1 : y.length ≤ 5592405 := by omega
    simp [upperD, h1, hy.upper.ok]
  obtain ⟨z, hz, hat⟩ : ∃ z ∈ [D.str (a ++ ⟨#[c]⟩ ++ b), .str (a ++ ⟨#[c]⟩ ++ bb1), .str (a ++ bb1), .str (a ++ bb0 ++ b), .str (Txt.upper y), .str (y ++ ⟨#[c]⟩)], L2.atI [D.str (a ++ ⟨#[c]⟩ ++ b), .str (a ++ ⟨#[c]⟩ ++ bb1), .str (a ++ bb1), .str (a ++ bb0 ++ b), .str (Txt.upper y), .str (y ++ ⟨#[c]⟩)] r3 = some z := atI_in a3 (by simp only [List.length_cons, List.length_nil]; omega)
  obtain ⟨x, rfl, hxA⟩ : ∃ x, z = .str x ∧ As (n + 1) x := by
    simp only [List.mem_cons, List.not_mem_nil, or_false] at hz
    rcases hz with rfl | rfl | rfl | rfl | rfl | rfl
    · exact ⟨_, rfl, lo (e1.app cb) (by rw [len_app, len_app]; omega)⟩
    · exact ⟨_, rfl, lo (e1.app cb1) (by rw [len_app, len_app]; omega)⟩
    · exact ⟨_, rfl, lo (ca.app cb1) (by rw [len_app]; omega)⟩
    · exact ⟨_, rfl, lo ((ca.app cb0).app cb) (by rw [len_app, len_app]; omega)⟩
    · exact ⟨_, rfl, hy.upper.mono (by omega)⟩
    · exact ⟨_, rfl, hy.app A1⟩
  refine ⟨x, l3, ?_, hxA, B3⟩
  have hSG : Str.ofString " !\"#$&'()*+,-./0123456789:;<=>?@ABCDEFGHIJKLMNOPQRSTUVWXYZ[\\]^_`abcdefghijklmnopqrstuvwxyz{|}~\n\t" = SG := rfl
  simp [F__law_bent, b__law_bent, hSG, runF, mkE, sSeq, sAsg, sIf, sRet, sRetN, sExp, sNil, sPar, sPar3, sPass, sBrk, sCnt, eV, eC, eP, eTup, eLst, eIf, eAnd, eOr, eNot, mB, mNot, mAnd, mOr, cA, cN, bd, rt, PD.cnt, PD.cnts, frz, frzs, Vl.hold, gN, gS, gT, gsC, gsN, outE, retV, mutAtD, putC, setD, addD, subD, mulD, divD, modD, powD, negD, ltD, leD, gtD, geD, lenD, absD, minD, maxD, PD.intD, ixD, eChain, isnD, isD, ckT, tyT, eM, eU, appendD, popD, reverseD, extendD, eSl, oN, oS, slD, callE, eCall, frzA, ioAll, ioIx, brIx, mutAt, updE, disj, nmOut, Vl.nm, D.nmC, Sl.mut, sig_take, t1, t2, t3, hx, sSG, hA, hB, hB1, hB0, S0, S1, S2, S3, S4, S5, S6, S7, S8, s4, s2, s6, hu, hat]
end L_k01
namespace L_k01
open PySem PySem.Spec PyProof.Rows L2 PD
/-- a thing that is_name may be asked of -/
def Gd (n : Nat) (d : D) : Prop := (∃ x, d = .str x ∧ As n x) ∨ (∃ t, tyN d = some t ∧ tyIs t "str" = false ∧ (d.shw && small d.wt && depB 60 d) = true)
theorem Gd.mono {n m : Nat} {d : D} (h : Gd n d) (hn : n ≤ m) : Gd m d := h.elim (fun ⟨x, e, a⟩ => .inl ⟨x, e, a.mono hn⟩) .inr
theorem Gd.right {n : Nat} {d : D} (h : Gd n d) (hn : n ≤ 1000) : F__law_right.sem [d] = some (.im (.bl true), [d]) := by
  rcases h with ⟨x, rfl, a⟩ | ⟨t, ht, hs, hr⟩
  · refine right_sem (is_name_str a (by omega)) (law_is_str a (by omega)) ?_
    have h1 : small (D.str x).wt = true := by
      have := a.1
      unfold D.wt
      exact small_lit (by omega)
    have h2 : depB 60 (.str x) = true := decide_eq_true (by simp [D.py, PyData.depth])
    simp only [D.shw, h1, h2, Bool.and_self]
  · exact right_sem (is_name_no ht hs) (law_is_no ht hs) hr
theorem Gd.isi {n : Nat} {d : D} (h : Gd n d) : (isiD [d, .ty "str"] = some (.im (.bl true)) ∧ ∃ x, d = .str x ∧ As n x) ∨ isiD [d, .ty "str"] = some (.im (.bl false)) := by
  rcases h with ⟨x, rfl, a⟩ | ⟨t, ht, hs, hr⟩
  · exact .inl ⟨rfl, x, rfl, a⟩
  · exact .inr (isi_no ht hs)
theorem nm_as {x : Str} (h : Nm x) : As 6 x := by
  obtain ⟨cs, rfl, h1, h2, h3⟩ := h
  exact ⟨by show cs.toArray.size ≤ 6; simpa using h2, fun c hc => LT_low c (h3 c (by simpa using hc))⟩
theorem nm_is {x : Str} (h : Nm x) : isN x = true := by
  obtain ⟨cs, rfl, h1, h2, h3⟩ := h
  have hl : (⟨cs.toArray⟩ : Str).length = cs.length := by
    show cs.toArray.size = _
    simp
  unfold isN low
  rw [hl, decide_eq_true h1, decide_eq_true h2]
  simp only [Bool.true_and, List.all_eq_true, decide_eq_true_eq]
  intro c hc
  exact h3 c (by simpa using hc)
/-- the things of a turn -/
structure Th (n : Nat) (ds : List D) : Prop where
  all : ∀ d ∈ ds, Gd n d
  ne : ∃ r d, ds = r ++ [d]
  len : ds.length ≤ n
theorem turn_sem {ns : List Int} {k i : Int} {j n : Nat} {l : D} {x : Str} {ds : List D} (B : Bx j l) (hj : j < 1000) (hx : As 6 x) (T : Th n ds) (h6 : 6 ≤ n) (hn : n ≤ 900) :
    ∃ l' ds', fb_law_2 [.im (.sc ns), .im (.int k), .ow l, .im (.str x), .ow (.lst ds), .im (.int i), .em] = some (.nx, [.im (.sc ns), .im (.int k), .ow l', .im (.str x), .ow (.lst ds'), .im (.int i), .em]) ∧ Bx (j + 3) l' ∧ Th (n + 1) ds' := by
  obtain ⟨r, d, rfl⟩ := T.ne
  have hlast : L2.atI (r ++ [d]) (-1) = some d := atI_last r d
  have hlen : lessL (r ++ [d]).length = true := decide_eq_true (by
    have := T.len
    have : sizeLine = 16777216 := rfl
    omega)
  have fin : ∀ z : Str, As n z → ∃ y l', F__law_bent.sem [l, .str z] = some (.im (.str y), [l', .str z]) ∧ Bx (j + 3) l' ∧ Th (n + 1) (r ++ [d] ++ [.str y]) := fun z hz => by
    obtain ⟨y, l', h1, h2, h3⟩ := bent_sem B (by omega) hz (by omega)
    refine ⟨y, l', h1, h3, ⟨fun e he => ?_, ⟨_, _, rfl⟩, ?_⟩⟩
    · rcases List.mem_append.mp he with he | he
      · exact (T.all e he).mono (by omega)
      · rw [List.mem_singleton] at he
        exact .inl ⟨y, he, h2⟩
    · have := T.len
      rw [List.length_append, List.length_singleton]
      omega
  have hd : Gd n d := T.all d (by simp)
  have hsig := sig_bent
  obtain ⟨y0, l0, q1, q2, q3⟩ := fin x (hx.mono h6)
  have hty : tyT "list" (.lst (r ++ [d])) = true := rfl
  generalize r ++ [d] = L at *
  by_cases hi : Int.fmod i 3 = 2
  · rcases hd.isi with ⟨h1, z, rfl, hz⟩ | h1
    · obtain ⟨y, l', h2, h3, h4⟩ := fin z hz
      refine ⟨l', L ++ [.str y], ?_, h3, h4⟩
      simp [fb_law_2, runF, mkE, sSeq, sAsg, sIf, sRet, sRetN, sExp, sNil, sPar, sPar3, sPass, sBrk, sCnt, eV, eC, eP, eTup, eLst, eIf, eAnd, eOr, eNot, mB, mNot, mAnd, mOr, cA, cN, bd, rt, PD.cnt, PD.cnts, frz, frzs, Vl.hold, gN, gS, gT, gsC, gsN, outE, retV, mutAtD, putC, setD, addD, subD, mulD, divD, modD, powD, negD, ltD, leD, gtD, geD, lenD, absD, minD, maxD, PD.intD, ixD, eChain, isnD, isD, ckT, tyT, eM, eU, appendD, popD, reverseD, extendD, eSl, oN, oS, slD, callE, eCall, frzA, ioAll, ioIx, brIx, mutAt, updE, disj, nmOut, Vl.nm, D.nmC, Sl.mut, eqD_int, hi, h1, hlast, sig_bent, h2, hlen]
    · refine ⟨l0, L ++ [.str y0], ?_, q2, q3⟩
      simp [fb_law_2, runF, mkE, sSeq, sAsg, sIf, sRet, sRetN, sExp, sNil, sPar, sPar3, sPass, sBrk, sCnt, eV, eC, eP, eTup, eLst, eIf, eAnd, eOr, eNot, mB, mNot, mAnd, mOr, cA, cN, bd, rt, PD.cnt, PD.cnts, frz, frzs, Vl.hold, gN, gS, gT, gsC, gsN, outE, retV, mutAtD, putC, setD, addD, subD, mulD, divD, modD, powD, negD, ltD, leD, gtD, geD, lenD, absD, minD, maxD, PD.intD, ixD, eChain, isnD, isD, ckT, tyT, eM, eU, appendD, popD, reverseD, extendD, eSl, oN, oS, slD, callE, eCall, frzA, ioAll, ioIx, brIx, mutAt, updE, disj, nmOut, Vl.nm, D.nmC, Sl.mut, eqD_int, hi, h1, hlast, sig_bent, q1, hlen]
  · refine ⟨l0, L ++ [.str y0], ?_, q2, q3⟩
    simp [fb_law_2, runF, mkE, sSeq, sAsg, sIf, sRet, sRetN, sExp, sNil, sPar, sPar3, sPass, sBrk, sCnt, eV, eC, eP, eTup, eLst, eIf, eAnd, eOr, eNot, mB, mNot, mAnd, mOr, cA, cN, bd, rt, PD.cnt, PD.cnts, frz, frzs, Vl.hold, gN, gS, gT, gsC, gsN, outE, retV, mutAtD, putC, setD, addD, subD, mulD, divD, modD, powD, negD, ltD, leD, gtD, geD, lenD, absD, minD, maxD, PD.intD, ixD, eChain, isnD, isD, ckT, tyT, eM, eU, appendD, popD, reverseD, extendD, eSl, oN, oS, slD, callE, eCall, frzA, ioAll, ioIx, brIx, mutAt, updE, disj, nmOut, Vl.nm, D.nmC, Sl.mut, eqD_int, hi, hlast, sig_bent, q1, hlen]
end L_k01
namespace L_k01
open PySem PySem.Spec PyProof.Rows L2 PD
theorem rng_get {lo : Int} {m i : Nat} {d : D} (h : (rngD lo m)[i]? = some d) : i < m ∧ d = .int (lo + i) := by
  unfold rngD at h
  rw [List.getElem?_map] at h
  cases h1 : (List.range m)[i]? with
  | none =>
    rw [h1] at h
    cases h
  | some j =>
    rw [h1] at h
    cases h
    obtain ⟨h2, h3⟩ := List.getElem?_eq_some_iff.mp h1
    rw [List.getElem_range] at h3
    exact ⟨by simpa using h2, by rw [h3]⟩
theorem s13 : small 13 = true := small_lit (by decide)
theorem len_abc : (Str.ofString "abcdef").length = 6 := by decide +kernel
def T0 (x : Str) : List D := [.str x, .str (Str.ofString ""), .str (x ++ Str.ofString "abcdef"), .str (timesS x 40), .lst [.str x], .tup [.str x], .tup [.str x, .str x], .non, .bl true, .bl false, .int 0, .int 7, .lst []]
theorem th0 {x : Str} (h : As 6 x) : Th 300 (T0 x) := by
  have hx := h.1
  have w1 : small (D.lst [.str x]).wt = true := small_lit (by simp only [D.wt, wts]; omega)
  have w2 : small (D.tup [.str x]).wt = true := small_lit (by simp only [D.wt, wts]; omega)
  have w3 : small (D.tup [.str x, .str x]).wt = true := small_lit (by simp only [D.wt, wts]; omega)
  have w4 : small D.non.wt = true := small_lit (by simp only [D.wt, wts]; omega)
  have w5 : ∀ b, small (D.bl b).wt = true := fun b => small_lit (by simp only [D.wt, wts]; omega)
  have w6 : ∀ b, small (D.int b).wt = true := fun b => small_lit (by simp only [D.wt, wts]; omega)
  have w7 : small (D.lst []).wt = true := small_lit (by simp only [D.wt, wts]; omega)
  have d1 : depB 60 (D.lst [.str x]) = true := decide_eq_true (by simp [D.py, pys, PyData.depth, PyData.depthAll])
  have d2 : depB 60 (D.tup [.str x]) = true := decide_eq_true (by simp [D.py, pys, PyData.depth, PyData.depthAll])
  have d3 : depB 60 (D.tup [.str x, .str x]) = true := decide_eq_true (by simp [D.py, pys, PyData.depth, PyData.depthAll])
  have d4 : depB 60 D.non = true := decide_eq_true (by simp [D.py, pys, PyData.depth, PyData.depthAll])
  have d5 : ∀ b, depB 60 (D.bl b) = true := fun b => decide_eq_true (by simp [D.py, pys, PyData.depth, PyData.depthAll])
  have d6 : ∀ b, depB 60 (D.int b) = true := fun b => decide_eq_true (by simp [D.py, pys, PyData.depth, PyData.depthAll])
  have d7 : depB 60 (D.lst []) = true := decide_eq_true (by simp [D.py, pys, PyData.depth, PyData.depthAll])
  have i0 : intB 0 = true := by decide +kernel
  have i7 : intB 7 = true := by decide +kernel
  refine ⟨fun d hd => ?_, ⟨[.str x, .str (Str.ofString ""), .str (x ++ Str.ofString "abcdef"), .str (timesS x 40), .lst [.str x], .tup [.str x], .tup [.str x, .str x], .non, .bl true, .bl false, .int 0, .int 7], _, rfl⟩, by show 13 ≤ 300; decide⟩
  simp only [T0, List.mem_cons, List.not_mem_nil, or_false] at hd
  rcases hd with rfl | rfl | rfl | rfl | rfl | rfl | rfl | rfl | rfl | rfl | rfl | rfl | rfl
  · exact .inl ⟨_, rfl, h.mono (by decide)⟩
  · exact .inl ⟨_, rfl, by decide +kernel, by decide +kernel⟩
  · exact .inl ⟨_, rfl, (h.app (m := 6) ⟨by decide +kernel, by decide +kernel⟩).mono (by decide)⟩
  · exact .inl ⟨_, rfl, (h.times 40).mono (by decide)⟩
  · exact .inr ⟨"list", rfl, by decide, by simp only [D.shw, shws, w1, d1, Bool.and_self]⟩
  · exact .inr ⟨"tuple", rfl, by decide, by simp only [D.shw, shws, w2, d2, Bool.and_self]⟩
  · exact .inr ⟨"tuple", rfl, by decide, by simp only [D.shw, shws, w3, d3, Bool.and_self]⟩
  · exact .inr ⟨"NoneType", rfl, by decide, by simp only [D.shw, w4, d4, Bool.and_self]⟩
  · exact .inr ⟨"bool", rfl, by decide, by simp only [D.shw, w5, d5, Bool.and_self]⟩
  · exact .inr ⟨"bool", rfl, by decide, by simp only [D.shw, w5, d5, Bool.and_self]⟩
  · exact .inr ⟨"int", rfl, by decide, by simp only [D.shw, w6, d6, i0, Bool.and_self]⟩
  · exact .inr ⟨"int", rfl, by decide, by simp only [D.shw, w6, d6, i7, Bool.and_self]⟩
  · exact .inr ⟨"list", rfl, by decide, by simp only [D.shw, shws, w7, d7, Bool.and_self]⟩
theorem turns_sem {ns : List Int} {k : Int} {j : Nat} {l : D} {x : Str} {ds : List D} {s5 : Sl} (B : Bx j l) (hj : j ≤ 100) (hx : As 6 x) (T : Th 300 ds) :
    ∃ l' ds' s', fl_law_2 [.im (.sc ns), .im (.int k), .ow l, .im (.str x), .ow (.lst ds), s5, .em] = some (.nx, [.im (.sc ns), .im (.int k), .ow l', .im (.str x), .ow (.lst ds'), s', .em]) ∧ Th 310 ds' := by
  obtain ⟨e', h1, l', ds', s', rfl, h2, h3⟩ := forL_inv (g := gN 5) (b := fb_law_2) (P := fun t e => ∃ l ds s5, e = [.im (.sc ns), .im (.int k), .ow l, .im (.str x), .ow (.lst ds), s5, .em] ∧ Bx (j + 3 * t) l ∧ Th (300 + t) ds) (ds := rngD 0 10) (k := 0) (e := [.im (.sc ns), .im (.int k), .ow l, .im (.str x), .ow (.lst ds), s5, .em])
    (fun i d e hd ⟨l, ds, s5, he, hB, hT⟩ => by
      subst he
      obtain ⟨hi, rfl⟩ := rng_get hd
      obtain ⟨l', ds', h1, h2, h3⟩ := turn_sem (ns := ns) (k := k) (i := 0 + (i : Int)) hB (by omega) hx hT (by omega) (by omega)
      refine ⟨_, _, rfl, .inl h1, l', ds', _, rfl, ?_, ?_⟩
      · rw [show j + 3 * (0 + i + 1) = j + 3 * (0 + i) + 3 by omega]
        exact h2
      · exact h3) ⟨l, ds, s5, rfl, B, T⟩
  refine ⟨l', ds', s', ?_, h3⟩
  have : mR1 (cA (eC (.int 10)) cN) [.im (.sc ns), .im (.int k), .ow l, .im (.str x), .ow (.lst ds), s5, .em] = some (rngD 0 10, [.im (.sc ns), .im (.int k), .ow l, .im (.str x), .ow (.lst ds), s5, .em]) := rfl
  unfold fl_law_2 sFor
  rw [this]
  exact h1
theorem all_sem {ns : List Int} {k : Int} {l : D} {x : Str} {ds : List D} {s5 : Sl} (T : Th 310 ds) :
    cp_law_1 [.im (.sc ns), .im (.int k), .ow l, .im (.str x), .ow (.lst ds), s5, .em] = some (.fr (.lst (ds.map fun _ => .bl true)), [.im (.sc ns), .im (.int k), .ow l, .im (.str x), .im (.lst ds), s5, .em]) := by
  have hm : compL [6] (gN 6) (rt true) ce_law_1 ds [.im (.sc ns), .im (.int k), .ow l, .im (.str x), .im (.lst ds), s5, .em] = some (ds.map (fun _ => .bl true), [.im (.sc ns), .im (.int k), .ow l, .im (.str x), .im (.lst ds), s5, .em]) := by
    refine compL_map (fun _ => .bl true) fun d hd => ?_
    have hr := (T.all d hd).right (by decide)
    refine ⟨[.im (.sc ns), .im (.int k), .ow l, .im (.str x), .im (.lst ds), s5, .im d], [.im (.sc ns), .im (.int k), .ow l, .im (.str x), .im (.lst ds), s5, .im d], .im (.bl true), [.im (.sc ns), .im (.int k), .ow l, .im (.str x), .im (.lst ds), s5, .im d], [.im (.sc ns), .im (.int k), .ow l, .im (.str x), .im (.lst ds), s5, .im d], rfl, rfl, ?_, rfl, rfl⟩
    simp [ce_law_1, runF, mkE, sSeq, sAsg, sIf, sRet, sRetN, sExp, sNil, sPar, sPar3, sPass, sBrk, sCnt, eV, eC, eP, eTup, eLst, eIf, eAnd, eOr, eNot, mB, mNot, mAnd, mOr, cA, cN, bd, rt, PD.cnt, PD.cnts, frz, frzs, Vl.hold, gN, gS, gT, gsC, gsN, outE, retV, mutAtD, putC, setD, addD, subD, mulD, divD, modD, powD, negD, ltD, leD, gtD, geD, lenD, absD, minD, maxD, PD.intD, ixD, eChain, isnD, isD, ckT, tyT, eM, eU, appendD, popD, reverseD, extendD, eSl, oN, oS, slD, callE, eCall, frzA, ioAll, ioIx, brIx, mutAt, updE, disj, nmOut, Vl.nm, D.nmC, Sl.mut, sig_right, hr]
  have sm : small (ds.map fun _ => D.bl true).length = true := small_lit (by rw [List.length_map]; have := T.len; omega)
  exact (eComp_of (e1 := [.im (.sc ns), .im (.int k), .ow l, .im (.str x), .im (.lst ds), s5, .em]) rfl rfl hm sm).trans rfl
theorem all_true (ds : List D) : allD [.lst (ds.map fun _ => .bl true)] = some (.im (.bl true)) := by
  have h := blsD_map (fun _ : D => true) ds
  have h2 : ((ds.map fun _ => true).all id) = true := by simp
  simp only [allD, h, Option.map_some, h2]
theorem round_sem {ns : List Int} {k : Nat} {a b c d : Sl} (hk : k ≤ 100) :
    ∃ a' b' c' d', fb_law_3 [.im (.sc ns), .im (.int k), a, b, c, d, .em] = some (.nx, [.im (.sc ns), .im (.int k), a', b', c', d', .em]) := by
  obtain ⟨p, q, h1, hp, hq, hq2⟩ := box_sem ns k hk
  have B : Bx 0 (.lst [.int p, .int q, .int 0]) := ⟨p, q, 0, rfl, hp, hq, hq2, by decide, by decide⟩
  generalize D.lst [.int p, .int q, .int 0] = l0 at h1 B
  obtain ⟨x, l1, h2, hx, B1⟩ := name_sem B (by decide)
  have hA := nm_as hx
  have hx6 := hA.1
  obtain ⟨l2, ds', s', h3, T⟩ := turns_sem (ns := ns) (k := k) (s5 := d) B1 (by decide) hA (th0 hA)
  have h4 := all_sem (ns := ns) (k := k) (l := l2) (x := x) (s5 := s') T
  have h5 := all_true ds'
  have h6 := is_name_str hA (by decide)
  rw [nm_is hx] at h6
  generalize ds'.map (fun _ => D.bl true) = BL at h4 h5
  refine ⟨.ow l2, .im (.str x), .im (.lst ds'), s', ?_⟩
  have m1 : small (x.length + (Str.ofString "abcdef").length) = true := small_lit (by rw [len_abc]; omega)
  have m2 : small (x.length * 1000) = true := small_lit (by omega)
  have h3 : fl_law_2 [.im (.sc ns), .im (.int k), .ow l1, .im (.str x), .ow (.lst [.str x, .str (Str.ofString ""), .str (x ++ Str.ofString "abcdef"), .str (timesS x 40), .lst [.str x], .tup [.str x], .tup [.str x, .str x], .non, .bl true, .bl false, .int 0, .int 7, .lst []]), d, .em] = _ := h3
  have e0 : small 0 = true := small_lit (by decide)
  simp [fb_law_3, runF, mkE, sSeq, sAsg, sIf, sRet, sRetN, sExp, sNil, sPar, sPar3, sPass, sBrk, sCnt, eV, eC, eP, eTup, eLst, eIf, eAnd, eOr, eNot, mB, mNot, mAnd, mOr, cA, cN, bd, rt, PD.cnt, PD.cnts, frz, frzs, Vl.hold, gN, gS, gT, gsC, gsN, outE, retV, mutAtD, putC, setD, addD, subD, mulD, divD, modD, powD, negD, ltD, leD, gtD, geD, lenD, absD, minD, maxD, PD.intD, ixD, eChain, isnD, isD, ckT, tyT, eM, eU, appendD, popD, reverseD, extendD, eSl, oN, oS, slD, callE, eCall, frzA, ioAll, ioIx, brIx, mutAt, updE, disj, nmOut, Vl.nm, D.nmC, Sl.mut, sig_box, h1, sig_name, h2, m1, m2, s1, s2, s13, e0, h3, h4, h5, sig_is_name, h6]
theorem sem_law : ∀ ns : List Int, ns.length ≤ 63 → ∃ o, F_law.sem [.sc ns] = some (.im (.bl true), o) := by
  intro ns hn
  obtain ⟨z, hz, hz0, hz1⟩ : ∃ z : Int, (1 + (if (ns.length : Int) < 12 then (ns.length : Int) else 12)) = z ∧ 0 ≤ z ∧ z ≤ 13 := ⟨_, rfl, by split <;> omega, by split <;> omega⟩
  have hi : in62 z = true := by
    simp only [in62, Bool.and_eq_true, decide_eq_true_eq]
    omega
  obtain ⟨e', h1, a, b, c, d, s1, rfl⟩ := forL_inv (g := gN 1) (b := fb_law_3) (P := fun t e => ∃ s1 a b c d, e = [.im (.sc ns), s1, a, b, c, d, .em]) (ds := rngD 0 z.toNat) (k := 0) (e := [.im (.sc ns), .em, .em, .em, .em, .em, .em])
    (fun i d e hd ⟨s1, a, b, c, d', he⟩ => by
      subst he
      obtain ⟨hi, rfl⟩ := rng_get hd
      obtain ⟨a', b', c', d'', h⟩ := round_sem (ns := ns) (k := i) (a := a) (b := b) (c := c) (d := d') (by omega)
      exact ⟨[.im (.sc ns), .im (.int (0 + (i : Int))), a, b, c, d', .em], [.im (.sc ns), .im (.int (0 + (i : Int))), a', b', c', d'', .em], rfl, .inl (by rw [Int.zero_add]; exact h), .im (.int (0 + (i : Int))), a', b', c', d'', rfl⟩) ⟨_, _, _, _, _, rfl⟩
  have h0 : fl_law_3 [.im (.sc ns), .em, .em, .em, .em, .em, .em] = some (.nx, [.im (.sc ns), a, b, c, d, s1, .em]) := by
    unfold fl_law_3 sFor
    have : mR1 (cA (eP addD (cA (eC (.int 1)) (cA (eP minD (cA (eC (.int 12)) (cA (eP lenD (cA (eV 0) cN)) cN))) cN))) cN) [.im (.sc ns), .em, .em, .em, .em, .em, .em] = some (rngD 0 z.toNat, [.im (.sc ns), .em, .em, .em, .em, .em, .em]) := by
      simp [mR1, runF, mkE, sSeq, sAsg, sIf, sRet, sRetN, sExp, sNil, sPar, sPar3, sPass, sBrk, sCnt, eV, eC, eP, eTup, eLst, eIf, eAnd, eOr, eNot, mB, mNot, mAnd, mOr, cA, cN, bd, rt, PD.cnt, PD.cnts, frz, frzs, Vl.hold, gN, gS, gT, gsC, gsN, outE, retV, mutAtD, putC, setD, addD, subD, mulD, divD, modD, powD, negD, ltD, leD, gtD, geD, lenD, absD, minD, maxD, PD.intD, ixD, eChain, isnD, isD, ckT, tyT, eM, eU, appendD, popD, reverseD, extendD, eSl, oN, oS, slD, callE, eCall, frzA, ioAll, ioIx, brIx, mutAt, updE, disj, nmOut, Vl.nm, D.nmC, Sl.mut, hz, hi]
    rw [this]
    exact h1
  exact ⟨[.sc ns], by simp [F_law, b_law, runF, mkE, sSeq, sAsg, sIf, sRet, sRetN, sExp, sNil, sPar, sPar3, sPass, sBrk, sCnt, eV, eC, eP, eTup, eLst, eIf, eAnd, eOr, eNot, mB, mNot, mAnd, mOr, cA, cN, bd, rt, PD.cnt, PD.cnts, frz, frzs, Vl.hold, gN, gS, gT, gsC, gsN, outE, retV, mutAtD, putC, setD, addD, subD, mulD, divD, modD, powD, negD, ltD, leD, gtD, geD, lenD, absD, minD, maxD, PD.intD, ixD, eChain, isnD, isD, ckT, tyT, eM, eU, appendD, popD, reverseD, extendD, eSl, oN, oS, slD, callE, eCall, frzA, ioAll, ioIx, brIx, mutAt, updE, disj, nmOut, Vl.nm, D.nmC, Sl.mut, h0]⟩
end L_k01
namespace L_k01
open PySem PySem.Spec PyProof.Rows L2 PD
theorem all_mk {l : PySem.W.OpenLaw} {w : World} {K : PySem.W.Frag} {h : Heap} {mg : Str → Option Value} {fa : Addr} (X : K.In h) (G : h.Ns mainGlobals mg) (hfa : mg "law" = some (.ref fa))
    {f__law_box f__law_take f__law_name f__law_bent f_is_name f__law_is f__law_right f_law : Addr}
    {od__law_box an__law_box od__law_take an__law_take od__law_name an__law_name od__law_bent an__law_bent od_is_name an_is_name od__law_is an__law_is od__law_right an__law_right od_law an_law : Option Addr}
    {sl__law_box sl__law_take sl__law_name sl__law_bent sl_is_name sl__law_is sl__law_right sl_law : Array (Option Value)}
    {oc__law_box kV__law_box dc__law_box pm__law_box cd__law_box ct__law_box oc__law_take kV__law_take dc__law_take pm__law_take cd__law_take ct__law_take oc__law_name kV__law_name dc__law_name pm__law_name cd__law_name ct__law_name oc__law_bent kV__law_bent dc__law_bent pm__law_bent cd__law_bent ct__law_bent oc_is_name kV_is_name dc_is_name pm_is_name cd_is_name ct_is_name oc__law_is kV__law_is dc__law_is pm__law_is cd__law_is ct__law_is oc__law_right kV__law_right dc__law_right pm__law_right cd__law_right ct__law_right oc_law kV_law dc_law pm_law cd_law ct_law : Value}
    {t_LETTERS : Tok}
    {t_LONGEST : Tok}
    (a__law_box : PySem.W.nsIn K mainGlobals "_law_box" = some (some (.ref f__law_box))) (l__law_box : K.lookup f__law_box = some ⟨oc__law_box, od__law_box, .func (PySem.W.fnOf "_law_box" "_law_box" (defArgs s__law_box) (defBody s__law_box) (defScope s__law_box) .none kV__law_box dc__law_box pm__law_box an__law_box cd__law_box ct__law_box), sl__law_box⟩) (k__law_box : PySem.W.codeIn K cd__law_box "_law_box" = true) (p__law_box : PySem.W.keepIn K (.ref f__law_box) = true)
    (a__law_take : PySem.W.nsIn K mainGlobals "_law_take" = some (some (.ref f__law_take))) (l__law_take : K.lookup f__law_take = some ⟨oc__law_take, od__law_take, .func (PySem.W.fnOf "_law_take" "_law_take" (defArgs s__law_take) (defBody s__law_take) (defScope s__law_take) .none kV__law_take dc__law_take pm__law_take an__law_take cd__law_take ct__law_take), sl__law_take⟩) (k__law_take : PySem.W.codeIn K cd__law_take "_law_take" = true) (p__law_take : PySem.W.keepIn K (.ref f__law_take) = true)
    (a__law_name : PySem.W.nsIn K mainGlobals "_law_name" = some (some (.ref f__law_name))) (l__law_name : K.lookup f__law_name = some ⟨oc__law_name, od__law_name, .func (PySem.W.fnOf "_law_name" "_law_name" (defArgs s__law_name) (defBody s__law_name) (defScope s__law_name) .none kV__law_name dc__law_name pm__law_name an__law_name cd__law_name ct__law_name), sl__law_name⟩) (k__law_name : PySem.W.codeIn K cd__law_name "_law_name" = true) (p__law_name : PySem.W.keepIn K (.ref f__law_name) = true)
    (a__law_bent : PySem.W.nsIn K mainGlobals "_law_bent" = some (some (.ref f__law_bent))) (l__law_bent : K.lookup f__law_bent = some ⟨oc__law_bent, od__law_bent, .func (PySem.W.fnOf "_law_bent" "_law_bent" (defArgs s__law_bent) (defBody s__law_bent) (defScope s__law_bent) .none kV__law_bent dc__law_bent pm__law_bent an__law_bent cd__law_bent ct__law_bent), sl__law_bent⟩) (k__law_bent : PySem.W.codeIn K cd__law_bent "_law_bent" = true) (p__law_bent : PySem.W.keepIn K (.ref f__law_bent) = true)
    (a_is_name : PySem.W.nsIn K mainGlobals "is_name" = some (some (.ref f_is_name))) (l_is_name : K.lookup f_is_name = some ⟨oc_is_name, od_is_name, .func (PySem.W.fnOf "is_name" "is_name" (defArgs s_is_name) (defBody s_is_name) (defScope s_is_name) .none kV_is_name dc_is_name pm_is_name an_is_name cd_is_name ct_is_name), sl_is_name⟩) (k_is_name : PySem.W.codeIn K cd_is_name "is_name" = true) (p_is_name : PySem.W.keepIn K (.ref f_is_name) = true)
    (a__law_is : PySem.W.nsIn K mainGlobals "_law_is" = some (some (.ref f__law_is))) (l__law_is : K.lookup f__law_is = some ⟨oc__law_is, od__law_is, .func (PySem.W.fnOf "_law_is" "_law_is" (defArgs s__law_is) (defBody s__law_is) (defScope s__law_is) .none kV__law_is dc__law_is pm__law_is an__law_is cd__law_is ct__law_is), sl__law_is⟩) (k__law_is : PySem.W.codeIn K cd__law_is "_law_is" = true) (p__law_is : PySem.W.keepIn K (.ref f__law_is) = true)
    (a__law_right : PySem.W.nsIn K mainGlobals "_law_right" = some (some (.ref f__law_right))) (l__law_right : K.lookup f__law_right = some ⟨oc__law_right, od__law_right, .func (PySem.W.fnOf "_law_right" "_law_right" (defArgs s__law_right) (defBody s__law_right) (defScope s__law_right) .none kV__law_right dc__law_right pm__law_right an__law_right cd__law_right ct__law_right), sl__law_right⟩) (k__law_right : PySem.W.codeIn K cd__law_right "_law_right" = true) (p__law_right : PySem.W.keepIn K (.ref f__law_right) = true)
    (a_law : PySem.W.nsIn K mainGlobals "law" = some (some (.ref f_law))) (l_law : K.lookup f_law = some ⟨oc_law, od_law, .func (PySem.W.fnOf "law" "law" (defArgs s_law) (defBody s_law) (defScope s_law) .none kV_law dc_law pm_law an_law cd_law ct_law), sl_law⟩) (k_law : PySem.W.codeIn K cd_law "law" = true) (p_law : PySem.W.keepIn K (.ref f_law) = true)
    (c_LETTERS : PySem.W.nsIn K mainGlobals "LETTERS" = some (some (.str "abcdefghijklmnopqrstuvwxyz" t_LETTERS)))
    (c_LONGEST : PySem.W.nsIn K mainGlobals "LONGEST" = some (some (.int 6 t_LONGEST)))
    (z_abs : PySem.W.nsIn K mainGlobals "abs" = some none)
    (z_all : PySem.W.nsIn K mainGlobals "all" = some none)
    (z_bool : PySem.W.nsIn K mainGlobals "bool" = some none)
    (z_int : PySem.W.nsIn K mainGlobals "int" = some none)
    (z_isinstance : PySem.W.nsIn K mainGlobals "isinstance" = some none)
    (z_len : PySem.W.nsIn K mainGlobals "len" = some none)
    (z_min : PySem.W.nsIn K mainGlobals "min" = some none)
    (z_range : PySem.W.nsIn K mainGlobals "range" = some none)
    (z_repr : PySem.W.nsIn K mainGlobals "repr" = some none)
    (z_str : PySem.W.nsIn K mainGlobals "str" = some none)
    (z_sum : PySem.W.nsIn K mainGlobals "sum" = some none) :
    ∃ fd : FuncData, (∀ (s : Shared) (u : Value), BindsTo s fd ⟨[u], []⟩ [("_law_script", u)]) ∧ ∀ base : Heap, K.In base → base.Ns mainGlobals mg → FnG ⟨l.prog, w, K, mg, base⟩ 3 fa fd ["_law_script"] (spF K F_law) := by
  have e := hfa.symm.trans (PySem.W.mg_of X G a_law)
  cases e
  refine ⟨PySem.W.fnOf "law" "law" (defArgs s_law) (defBody s_law) (defScope s_law) .none kV_law dc_law pm_law an_law cd_law ct_law, fun s v => .of_eq rfl, fun base _ _ => fg_law ⟨?d__law_box, ?d__law_take, ?d__law_name, ?d__law_bent, ?d_is_name, ?d__law_is, ?d__law_right, ?c_LETTERS, ?c_LONGEST, ?z_abs, ?z_all, ?z_bool, ?z_int, ?z_isinstance, ?z_len, ?z_min, ?z_range, ?z_repr, ?z_str, ?z_sum⟩ (fun_mk (st := s_law) l_law k_law p_law)⟩
  case d__law_box => exact ⟨f__law_box, _, PySem.W.mg_of X G a__law_box, fun_mk (st := s__law_box) l__law_box k__law_box p__law_box, (fun_mk (st := s__law_box) l__law_box k__law_box p__law_box).binds fun _ _ _ _ _ _ us hl => match us, hl with | [_, _], _ => rfl⟩
  case d__law_take => exact ⟨f__law_take, _, PySem.W.mg_of X G a__law_take, fun_mk (st := s__law_take) l__law_take k__law_take p__law_take, (fun_mk (st := s__law_take) l__law_take k__law_take p__law_take).binds fun _ _ _ _ _ _ us hl => match us, hl with | [_, _], _ => rfl⟩
  case d__law_name => exact ⟨f__law_name, _, PySem.W.mg_of X G a__law_name, fun_mk (st := s__law_name) l__law_name k__law_name p__law_name, (fun_mk (st := s__law_name) l__law_name k__law_name p__law_name).binds fun _ _ _ _ _ _ us hl => match us, hl with | [_], _ => rfl⟩
  case d__law_bent => exact ⟨f__law_bent, _, PySem.W.mg_of X G a__law_bent, fun_mk (st := s__law_bent) l__law_bent k__law_bent p__law_bent, (fun_mk (st := s__law_bent) l__law_bent k__law_bent p__law_bent).binds fun _ _ _ _ _ _ us hl => match us, hl with | [_, _], _ => rfl⟩
  case d_is_name => exact ⟨f_is_name, _, PySem.W.mg_of X G a_is_name, fun_mk (st := s_is_name) l_is_name k_is_name p_is_name, (fun_mk (st := s_is_name) l_is_name k_is_name p_is_name).binds fun _ _ _ _ _ _ us hl => match us, hl with | [_], _ => rfl⟩
  case d__law_is => exact ⟨f__law_is, _, PySem.W.mg_of X G a__law_is, fun_mk (st := s__law_is) l__law_is k__law_is p__law_is, (fun_mk (st := s__law_is) l__law_is k__law_is p__law_is).binds fun _ _ _ _ _ _ us hl => match us, hl with | [_], _ => rfl⟩
  case d__law_right => exact ⟨f__law_right, _, PySem.W.mg_of X G a__law_right, fun_mk (st := s__law_right) l__law_right k__law_right p__law_right, (fun_mk (st := s__law_right) l__law_right k__law_right p__law_right).binds fun _ _ _ _ _ _ us hl => match us, hl with | [_], _ => rfl⟩
  case c_LETTERS => exact ⟨.str "abcdefghijklmnopqrstuvwxyz", _, PySem.W.mg_of X G c_LETTERS, ⟨t_LETTERS, rfl⟩, fun _ => .str _ (by decide +kernel)⟩
  case c_LONGEST => exact ⟨.int 6, _, PySem.W.mg_of X G c_LONGEST, ⟨t_LONGEST, rfl⟩, fun _ => .int _⟩
  case z_abs => exact PySem.W.mg_none_of X G z_abs
  case z_all => exact PySem.W.mg_none_of X G z_all
  case z_bool => exact PySem.W.mg_none_of X G z_bool
  case z_int => exact PySem.W.mg_none_of X G z_int
  case z_isinstance => exact PySem.W.mg_none_of X G z_isinstance
  case z_len => exact PySem.W.mg_none_of X G z_len
  case z_min => exact PySem.W.mg_none_of X G z_min
  case z_range => exact PySem.W.mg_none_of X G z_range
  case z_repr => exact PySem.W.mg_none_of X G z_repr
  case z_str => exact PySem.W.mg_none_of X G z_str
  case z_sum => exact PySem.W.mg_none_of X G z_sum
end L_k01
open PySem PySem.W PyProof.Rows
set_option maxHeartbeats 0 in
theorem PySem.Challenge.cw_wetfields_k01_names_holds : PySem.Challenge.rw_wetfields_k01_names.Holds := by
  w_on; o_law; k_head; (case hw => w_witness2)
  k_fill
  refine PD.top_walk (l := PySem.Challenge.rw_wetfields_k01_names) (n := 63) (k := 3) (x := "_law_script") (F := L_k01.F_law) rfl (by decide) rfl ⟨rfl, by decide, by decide⟩ (fun w h Y => PySem.W.kIn_of Y) ?F rfl L_k01.sem_law
  case F =>
    intro w mg fa h KX G hmg
    refine' L_k01.all_mk KX G hmg ?a__law_box ?l__law_box ?k__law_box ?p__law_box ?a__law_take ?l__law_take ?k__law_take ?p__law_take ?a__law_name ?l__law_name ?k__law_name ?p__law_name ?a__law_bent ?l__law_bent ?k__law_bent ?p__law_bent ?a_is_name ?l_is_name ?k_is_name ?p_is_name ?a__law_is ?l__law_is ?k__law_is ?p__law_is ?a__law_right ?l__law_right ?k__law_right ?p__law_right ?a_law ?l_law ?k_law ?p_law ?c_LETTERS ?c_LONGEST ?z_abs ?z_all ?z_bool ?z_int ?z_isinstance ?z_len ?z_min ?z_range ?z_repr ?z_str ?z_sum
    (case a__law_box => k_is); (case l__law_box => k_is); (case k__law_box => k_is); (case p__law_box => k_is); (case a__law_take => k_is); (case l__law_take => k_is); (case k__law_take => k_is); (case p__law_take => k_is); (case a__law_name => k_is); (case l__law_name => k_is); (case k__law_name => k_is); (case p__law_name => k_is); (case a__law_bent => k_is); (case l__law_bent => k_is); (case k__law_bent => k_is); (case p__law_bent => k_is); (case a_is_name => k_is); (case l_is_name => k_is); (case k_is_name => k_is); (case p_is_name => k_is); (case a__law_is => k_is); (case l__law_is => k_is); (case k__law_is => k_is); (case p__law_is => k_is); (case a__law_right => k_is); (case l__law_right => k_is); (case k__law_right => k_is); (case p__law_right => k_is); (case a_law => k_is); (case l_law => k_is); (case k_law => k_is); (case p_law => k_is); (case c_LETTERS => k_is); (case c_LONGEST => k_is); (case z_abs => k_is); (case z_all => k_is); (case z_bool => k_is); (case z_int => k_is); (case z_isinstance => k_is); (case z_len => k_is); (case z_min => k_is); (case z_range => k_is); (case z_repr => k_is); (case z_str => k_is); (case z_sum => k_is)
