import PyProof.Rows.All
import Wide.All
import OpenK.AllK
import Wide.FinOn
import HandS.ForMost
import HandS.Style
import HandS.Zip
import HandS.IsInst
import HandS.TupAny
import HandS.Walk
import HandS.Lambda
import HandS.Exc
import HandS.Wide
import HandS.TupMul
import HandS.Sort
import HandS.Deep
import HandS.RaiseMore
import HandS.Remove
import HandS.SetFor
import HandS.Text
import PyProof.Rows.RegReprOcc
import KE.SortData
import KE.KDictZip
import KE.GoesMore
import HandS.ListItems
import HandS.DictTup
import HandS.Conv
import KE.KDictSum
import KE.KDictPairs
import KE.GoesEnum
import HandS.TryOnly
import HandS.More
import KE.DataMinMax
import PyProof.Rows.SumAny
import HandS.SetKeys
import HandS.TupSets
import HandS.Strs
import HandS.Iter
import KE.DataFind
import PyProof.Rows.IntBool
import KE.SortKeyHeap
import KE.KNestM
import KE.DataCmp
import PyProof.DictMoreH
import KE.DataMinKey
import PyProof.SetRoads
import KE.KEqDict
import HandS.WordsDict
import PyProof.DictUpdate
import PyProof.Rows.FloatCmp
import PyProof.Rows.RuleB_bool
import HandS.ExcInit
import HandS.ExcValue
import OpenK.KCls
import HandS.ExcField
import KE.KExcIs
import HandS.ExcIs
import PySem.Challenge.RW_wetfields_k35_loans_that_can_be
set_option Elab.async false
set_option linter.all false
set_option maxRecDepth 100000
set_option maxHeartbeats 4000000
namespace PD
open PySem PySem.Spec PyProof.Rows L2

/-- plain data -/
inductive D where
  | non | bl (b : Bool) | int (i : Int) | str (x : Str)
  | tup (ds : List D) | lst (ds : List D)
  | dk (es : List (Key × D)) | dt (es : List (List Key × D))
  /-- the script: read, never changed -/
  | sc (ns : List Int)
  /-- an empty list, frozen with its object -/
  | fe
  /-- a built-in class -/
  | ty (n : String)
  /-- a text that is told of data -/
  | txt (x : Str)
  /-- a tuple that is known to have no dict of its own -/
  | tp (ds : List D)
  /-- a dict that is walked: it stays as it is -/
  | kf (es : List (Key × D)) | tf (es : List (List Key × D))
  /-- an error that was caught: its class, its one field's name, what the field holds -/
  | ex (n f : Str) (ds : List D)
  /-- a class of errors -/
  | cl (n : Str)

/-- tables of code objects (with the names that they tell): they grow as lambdas are made; the classes of errors by name -/
class TabL where
  T : List (Addr × Str)
  cls : Str → Option Addr := fun _ => none
instance (priority := low) : TabL := ⟨[], fun _ => none⟩
variable [TabL]
/-- an error's object, caught -/
def ExK (C : Addr) (d : Option Addr) (a : Addr) : HO := .ext fun h => ∃ (oe : Obj) (vs : Array Value), h.get? a = some oe ∧ Zc (.ref C) d oe ∧ oe.data = .fields vs
def ExAt (B : Hp) (C : Addr) (f : Str) (a : Addr) : List V → Prop
  | [] => B a = some (ExK C none a)
  | [v] => ∃ dd, B a = some (ExK C (some dd) a) ∧ B dd = some (.xd [(f, v)])
  | _ => False
theorem ExAt.mono {B B' : Hp} {C : Addr} {f : Str} {a : Addr} (s : Same B B') : ∀ {vs : List V}, ExAt B C f a vs → ExAt B' C f a vs
  | [], h => s _ _ h
  | [_], ⟨dd, h1, h2⟩ => ⟨dd, s _ _ h1, s _ _ h2⟩
  | _ :: _ :: _, h => h.elim
/-- a tuple that was made -/
def TuT (_ : PySem.W.Frag) (B : Hp) (a : Addr) (xs : List V) : Prop := B a = some (.tup xs)
theorem TuT.sq {K : PySem.W.Frag} {B : Hp} {a : Addr} {xs : List V} (h : TuT K B a xs) : SqT K B a xs := .inl (.inl h)
theorem TuT.same {K : PySem.W.Frag} {B B' : Hp} {a : Addr} {xs : List V} (s : Same B B') (h : TuT K B a xs) : TuT K B' a xs := s _ _ h
mutual
/-- the value v stands for d, all of it in the frozen part B -/
inductive Rp (K : PySem.W.Frag) (B : Hp) : D → V → Prop
  | non : Rp K B .non .non
  | bl (b : Bool) : Rp K B (.bl b) (.bl b)
  | int (i : Int) : Rp K B (.int i) (.int i)
  | str (x : Str) (h : PyData.strOk x = true) : Rp K B (.str x) (.str x)
  | ty (n : String) : Rp K B (.ty n) (.ty n)
  | txt (x : Str) : Rp K B (.txt x) (.str x)
  | tup {a : Addr} {xs : List V} {ds : List D} : TuT K B a xs → Rps K B ds xs → Rp K B (.tup ds) (.ref a)
  | lst {a : Addr} {xs : List V} {ds : List D} : B a = some (.lst xs) → Rps K B ds xs → Rp K B (.lst ds) (.ref a)
  | sc {a : Addr} {ns : List Int} : SqL K B a (ns.map V.int) → Rp K B (.sc ns) (.ref a)
  | fe {a : Addr} {o : Obj} : B a = some (.frz o (.lst [])) → Rp K B .fe (.ref a)
  | tp {a : Addr} {o : Obj} {xs : List V} {ds : List D} : B a = some (.frz o (.tup xs)) → o.dict = none → Rps K B ds xs → Rp K B (.tp ds) (.ref a)
  | dk {a : Addr} {kvs : List (Key × V)} {es : List (Key × D)} : B a = some (.dK kvs) → es.map (·.1) = kvs.map (·.1) → Rps K B (es.map (·.2)) (kvs.map (·.2)) → Rp K B (.dk es) (.ref a)
  | dt {a : Addr} {kvs : List (List Key × V)} {es : List (List Key × D)} : B a = some (.dT kvs) → es.map (·.1) = kvs.map (·.1) → Rps K B (es.map (·.2)) (kvs.map (·.2)) → Rp K B (.dt es) (.ref a)
  | kf {a : Addr} {o : Obj} {kvs : List (Key × V)} {es : List (Key × D)} : B a = some (.frz o (.dK kvs)) → es.map (·.1) = kvs.map (·.1) → Rps K B (es.map (·.2)) (kvs.map (·.2)) → Rp K B (.kf es) (.ref a)
  | tf {a : Addr} {o : Obj} {kvs : List (List Key × V)} {es : List (List Key × D)} : B a = some (.frz o (.dT kvs)) → es.map (·.1) = kvs.map (·.1) → Rps K B (es.map (·.2)) (kvs.map (·.2)) → Rp K B (.tf es) (.ref a)
  | ex {a C : Addr} {n f : Str} {vs : List V} {ds : List D} : TabL.cls n = some C → ExAt B C f a vs → Rps K B ds vs → Rp K B (.ex n f ds) (.ref a)
  | cl {C : Addr} {n : Str} : TabL.cls n = some C → Rp K B (.cl n) (.ref C)
inductive Rps (K : PySem.W.Frag) (B : Hp) : List D → List V → Prop
  | nil : Rps K B [] []
  | cons {d : D} {v : V} {ds : List D} {vs : List V} : Rp K B d v → Rps K B ds vs → Rps K B (d :: ds) (v :: vs)
end

theorem sameL {K : PySem.W.Frag} {B B' : Hp} {a : Addr} {xs : List V} (s : Same B B') (h : SqL K B a xs) : SqL K B' a xs := s.seq h
theorem sameT {K : PySem.W.Frag} {B B' : Hp} {a : Addr} {xs : List V} (s : Same B B') (h : SqT K B a xs) : SqT K B' a xs := by
  rcases h with (h | ⟨o, h⟩) | h
  · exact .inl (.inl (s _ _ h))
  · exact .inl (.inr ⟨o, s _ _ h⟩)
  · exact .inr h

mutual
theorem Rp.mono {K : PySem.W.Frag} {B B' : Hp} (s : Same B B') : ∀ {d : D} {v : V}, Rp K B d v → Rp K B' d v
  | _, _, .non => .non
  | _, _, .bl b => .bl b
  | _, _, .int i => .int i
  | _, _, .str x h => .str x h
  | _, _, .ty n => .ty n
  | _, _, .txt x => .txt x
  | _, _, .tup h r => .tup (h.same s) (Rps.mono s r)
  | _, _, .lst h r => .lst (s _ _ h) (Rps.mono s r)
  | _, _, .sc h => .sc (sameL s h)
  | _, _, .fe h => .fe (s _ _ h)
  | _, _, .tp h d r => .tp (s _ _ h) d (Rps.mono s r)
  | _, _, .dk h e r => .dk (s _ _ h) e (Rps.mono s r)
  | _, _, .dt h e r => .dt (s _ _ h) e (Rps.mono s r)
  | _, _, .kf h e r => .kf (s _ _ h) e (Rps.mono s r)
  | _, _, .tf h e r => .tf (s _ _ h) e (Rps.mono s r)
  | _, _, .ex c h r => .ex c (h.mono s) (Rps.mono s r)
  | _, _, .cl c => .cl c
theorem Rps.mono {K : PySem.W.Frag} {B B' : Hp} (s : Same B B') : ∀ {ds : List D} {vs : List V}, Rps K B ds vs → Rps K B' ds vs
  | _, _, .nil => .nil
  | _, _, .cons h r => .cons (Rp.mono s h) (Rps.mono s r)
end

section
variable {K : PySem.W.Frag} {B : Hp}
theorem Rps.length : ∀ {ds : List D} {vs : List V}, Rps K B ds vs → ds.length = vs.length
  | _, _, .nil => rfl
  | _, _, .cons _ r => by rw [List.length_cons, List.length_cons, Rps.length r]
theorem Rps.get : ∀ {ds : List D} {vs : List V} {i : Nat} {d : D}, Rps K B ds vs → ds[i]? = some d → ∃ v, vs[i]? = some v ∧ Rp K B d v
  | _, _, _, _, .nil, e => by simp at e
  | _, _, 0, _, .cons r _, e => by
    simp at e
    subst e
    exact ⟨_, rfl, r⟩
  | _, _, i + 1, d, .cons _ t, e => by
    obtain ⟨v, h1, h2⟩ := Rps.get (i := i) (d := d) t (by simpa using e)
    exact ⟨v, by simpa using h1, h2⟩
theorem Rps.getV : ∀ {ds : List D} {vs : List V} {i : Nat} {v : V}, Rps K B ds vs → vs[i]? = some v → ∃ d, ds[i]? = some d ∧ Rp K B d v
  | _, _, _, _, .nil, e => by simp at e
  | _, _, 0, _, .cons r _, e => by
    simp at e
    subst e
    exact ⟨_, rfl, r⟩
  | _, _, i + 1, v, .cons _ t, e => by
    obtain ⟨d, h1, h2⟩ := Rps.getV (i := i) (v := v) t (by simpa using e)
    exact ⟨d, by simpa using h1, h2⟩
theorem Rps.app : ∀ {ds es : List D} {vs us : List V}, Rps K B ds vs → Rps K B es us → Rps K B (ds ++ es) (vs ++ us)
  | _, _, _, _, .nil, s => s
  | _, _, _, _, .cons r t, s => .cons r (Rps.app t s)
theorem Rps.take : ∀ {ds : List D} {vs : List V} (n : Nat), Rps K B ds vs → Rps K B (ds.take n) (vs.take n)
  | _, _, 0, _ => .nil
  | _, _, _ + 1, .nil => .nil
  | _, _, n + 1, .cons r t => .cons r (Rps.take n t)
theorem Rps.drop : ∀ {ds : List D} {vs : List V} (n : Nat), Rps K B ds vs → Rps K B (ds.drop n) (vs.drop n)
  | _, _, 0, r => r
  | _, _, _ + 1, .nil => .nil
  | _, _, n + 1, .cons _ t => Rps.drop n t
theorem Rps.set {d : D} {v : V} (r : Rp K B d v) : ∀ {ds : List D} {vs : List V} (i : Nat), Rps K B ds vs → Rps K B (ds.set i d) (vs.set i v)
  | _, _, _, .nil => .nil
  | _, _, 0, .cons _ t => .cons r t
  | _, _, i + 1, .cons q t => .cons q (Rps.set r i t)
theorem Rps.erase : ∀ {ds : List D} {vs : List V} (i : Nat), Rps K B ds vs → Rps K B (ds.eraseIdx i) (vs.eraseIdx i)
  | _, _, _, .nil => .nil
  | _, _, 0, .cons _ t => t
  | _, _, i + 1, .cons q t => .cons q (Rps.erase i t)
theorem Rps.rev : ∀ {ds : List D} {vs : List V}, Rps K B ds vs → Rps K B ds.reverse vs.reverse
  | _, _, .nil => .nil
  | _, _, .cons r t => by
    rw [List.reverse_cons, List.reverse_cons]
    exact Rps.app (Rps.rev t) (.cons r .nil)
theorem Rps.one {d : D} {v : V} (r : Rp K B d v) : Rps K B [d] [v] := .cons r .nil
theorem Rps.repl {ds : List D} {vs : List V} (r : Rps K B ds vs) : ∀ n : Nat, Rps K B (List.replicate n ds).flatten (List.replicate n vs).flatten
  | 0 => .nil
  | n + 1 => by
    rw [List.replicate_succ, List.replicate_succ, List.flatten_cons, List.flatten_cons]
    exact Rps.app r (Rps.repl r n)
theorem Rps.of_ints : ∀ ns : List Int, Rps K B (ns.map D.int) (ns.map V.int)
  | [] => .nil
  | n :: ns => .cons (.int n) (Rps.of_ints ns)
theorem Rps.bls : ∀ {bs : List Bool} {vs : List V}, Rps K B (bs.map D.bl) vs → vs = bs.map V.bl
  | [], _, .nil => rfl
  | n :: ns, _, .cons h r => by
    cases h
    rw [List.map_cons, Rps.bls r]
theorem Rps.strs : ∀ {xs : List Str} {vs : List V}, Rps K B (xs.map D.str) vs → vs = xs.map V.str
  | [], _, .nil => rfl
  | n :: ns, _, .cons h r => by
    cases h
    rw [List.map_cons, Rps.strs r]
end

inductive Sl where
  /-- nothing known -/
  | em
  /-- frozen data -/
  | im (d : D)
  /-- a list or dict of this def's own, held by this slot alone -/
  | ow (d : D)
  /-- a list or dict of the caller's, handed in to be changed -/
  | io (j : Nat) (d : D)
abbrev Env := List Sl

/-- where a def began: the heap, its frozen part, the caller's things that it may change -/
structure Anc where
  H0 : Hp
  B0 : Hp
  io : Nat → Option Addr
def Anc.isIo (A : Anc) (a : Addr) : Prop := ∃ j, A.io j = some a

/-- what stands at an address is the container d -/
inductive Cont (K : PySem.W.Frag) (B : Hp) : D → Option HO → Prop
  | lst {xs : List V} {ds : List D} : Rps K B ds xs → Cont K B (.lst ds) (some (.lst xs))
  | dk {kvs : List (Key × V)} {es : List (Key × D)} : es.map (·.1) = kvs.map (·.1) → Rps K B (es.map (·.2)) (kvs.map (·.2)) → Cont K B (.dk es) (some (.dK kvs))
  | dt {kvs : List (List Key × V)} {es : List (List Key × D)} : es.map (·.1) = kvs.map (·.1) → Rps K B (es.map (·.2)) (kvs.map (·.2)) → Cont K B (.dt es) (some (.dT kvs))
theorem Cont.mono {K : PySem.W.Frag} {B B' : Hp} (s : Same B B') {d : D} {o : Option HO} (h : Cont K B d o) : Cont K B' d o := by
  cases h with
  | lst r => exact .lst (r.mono s)
  | dk e r => exact .dk e (r.mono s)
  | dt e r => exact .dt e (r.mono s)
theorem Cont.some {K : PySem.W.Frag} {B : Hp} {d : D} {o : Option HO} (h : Cont K B d o) : ∃ u, o = some u := by
  cases h <;> exact ⟨_, rfl⟩
/-- a tuple's -/
def TuO : HO → Prop
  | .tup _ => True
  | .frz _ (.tup _) => True
  | _ => False
theorem Cont.nu {K : PySem.W.Frag} {B : Hp} {d : D} {o : HO} (h : Cont K B d (Option.some o)) : ¬ TuO o := by
  cases h <;> exact fun z => z
theorem Cont.nt {K : PySem.W.Frag} {B : Hp} {d : D} {o : HO} (h : Cont K B d (Option.some o)) (ts : List V) : o ≠ .tup ts := by
  cases h <;> exact fun z => nomatch z
theorem Cont.frozen {K : PySem.W.Frag} {B B' : Hp} (s : Same B B') {d : D} {o : Option HO} {p : Addr} (h : Cont K B d o) (e : B' p = o) : Rp K B' d (.ref p) := by
  cases h with
  | lst r => exact .lst e (r.mono s)
  | dk e1 r => exact .dk e e1 (r.mono s)
  | dt e1 r => exact .dt e e1 (r.mono s)

abbrev tbA [TabL] : List Addr := TabL.T.map (·.1)
/-- all but the tables -/
def noT (H : Hp) : Hp := fun a => if a ∈ tbA then none else H a
theorem noT_some {H : Hp} {a : Addr} {o : HO} (h : noT H a = some o) : H a = some o := by
  unfold noT at h
  split at h
  · cases h
  · exact h
theorem noT_of {H : Hp} {a : Addr} (n : a ∉ tbA) : noT H a = H a := if_neg n
theorem noT_tab {H : Hp} {p : Addr × Str} (h : p ∈ TabL.T) : noT H p.1 = none := if_pos (List.mem_map.mpr ⟨p, h, rfl⟩)
theorem tab_upd {H : Hp} {P p : Addr} {q : Str} {o : HO} (t : LamX.TabS H P q) (n1 : ∀ ps, H p ≠ some (.tbl ps)) (n2 : ∀ c q, H p ≠ some (LamX.CodeO c q)) : LamX.TabS (upd H p o) P q := by
  obtain ⟨ps, h1, h2, h3⟩ := t
  refine ⟨ps, ?_, h2, fun pos cv hc => ?_⟩
  · rw [upd_ne fun z => n1 ps (by rw [← z]; exact h1)]
    exact h1
  · obtain ⟨c, e1, e2⟩ := h3 pos cv hc
    refine ⟨c, e1, ?_⟩
    rw [upd_ne fun z => n2 _ _ (by rw [← z]; exact e2)]
    exact e2
theorem Cont.ntab {K : PySem.W.Frag} {B : Hp} {d : D} {o : HO} (h : Cont K B d (Option.some o)) : (∀ ps, o ≠ .tbl ps) ∧ ∀ c q, o ≠ LamX.CodeO c q := by
  refine ⟨fun ps z => ?_, fun c q z => ?_⟩
  · subst z
    cases h
  · unfold LamX.CodeO at z
    subst z
    cases h

def Sl.mut : Sl → Bool
  | .ow _ => true
  | .io _ _ => true
  | _ => false
inductive SlOk (K : PySem.W.Frag) (A : Anc) (B H : Hp) : Sl → Option V → Prop
  | em {o : Option V} : SlOk K A B H .em o
  | im {d : D} {v : V} : Rp K B d v → SlOk K A B H (.im d) (some v)
  | ow {d : D} {p : Addr} : B p = none → A.H0 p = none → Cont K B d (H p) → SlOk K A B H (.ow d) (some (.ref p))
  | io {d : D} {p : Addr} {j : Nat} : A.io j = some p → Cont K B d (H p) → SlOk K A B H (.io j d) (some (.ref p))

structure SR (K : PySem.W.Frag) (A : Anc) (B H : Hp) (σ : L2.St) (env : Env) : Prop where
  len : σ.length = env.length
  same : Same B H
  slot : ∀ (i : Nat) (sl : Sl) (ov : Option V), env[i]? = some sl → σ[i]? = some ov → SlOk K A B H sl ov
  inj : ∀ (i j : Nat) (p : Addr) (sl sl' : Sl), i ≠ j → env[i]? = some sl → env[j]? = some sl' → sl.mut = true → sl'.mut = true → σ[i]? = some (some (.ref p)) → σ[j]? = some (some (.ref p)) → False
  anc : ∀ a o, A.H0 a = some o → ¬ A.isIo a → H a = some o ∧ (B a = A.B0 a ∨ ∃ ts, o = .tup ts)
  iob : ∀ a, A.isIo a → B a = none ∧ ∃ o, H a = some o ∧ ∀ ts, o ≠ .tup ts
  ioh : ∀ a, A.isIo a → ∃ o, A.H0 a = some o
  tab : ∀ p ∈ TabL.T, LamX.TabS H p.1 p.2 ∧ B p.1 = none ∧ A.H0 p.1 = none

section
variable {K : PySem.W.Frag} {A : Anc} {B H : Hp} {σ : L2.St} {env : Env}
theorem SR.tN (S : SR K A B H σ env) {p : Addr} (h : ∀ ps, H p ≠ some (.tbl ps)) : p ∉ tbA := fun z => by
  obtain ⟨q, hq, rfl⟩ := List.mem_map.mp z
  obtain ⟨⟨ps, e, _⟩, _⟩ := S.tab q hq
  exact h ps e
theorem SR.tB (S : SR K A B H σ env) {p : Addr} {o : HO} (h : B p = some o) : p ∉ tbA := fun z => by
  obtain ⟨q, hq, rfl⟩ := List.mem_map.mp z
  rw [(S.tab q hq).2.1] at h
  cases h
theorem SR.tH (S : SR K A B H σ env) {p : Addr} {o : HO} (h : A.H0 p = some o) : p ∉ tbA := fun z => by
  obtain ⟨q, hq, rfl⟩ := List.mem_map.mp z
  rw [(S.tab q hq).2.2] at h
  cases h
theorem SR.tC (S : SR K A B H σ env) {p : Addr} {B' : Hp} {d : D} (h : Cont K B' d (H p)) : p ∉ tbA := S.tN fun ps e => by
  rw [e] at h
  exact h.ntab.1 ps rfl
theorem SR.tE (S : SR K A B H σ env) {p : Addr} (h : H p = none) : p ∉ tbA := S.tN fun ps e => by
  rw [h] at e
  cases e
theorem tne {p : Addr} (n : p ∉ tbA) {q : Addr × Str} (h : q ∈ TabL.T) : q.1 ≠ p := fun z => n (List.mem_map.mpr ⟨q, h, z⟩)
/-- an address that nothing is tracked at is new to the def -/
theorem SR.new (S : SR K A B H σ env) {p : Addr} (h : H p = none) : B p = none ∧ A.H0 p = none ∧ ¬ A.isIo p := by
  have h1 : ¬ A.isIo p := fun z => by
    obtain ⟨_, o, e, _⟩ := S.iob p z
    rw [h] at e
    cases e
  refine ⟨S.same.free h, ?_, h1⟩
  cases e : A.H0 p with
  | none => rfl
  | some o =>
    have := (S.anc p o e h1).1
    rw [h] at this
    cases this
theorem SlOk.grow {sl : Sl} {ov : Option V} {B' H' : Hp} (s : SlOk K A B H sl ov) (hB : Same B B') (hH : ∀ p d, ov = some (.ref p) → sl.mut = true → Cont K B d (H p) → H' p = H p) (hN : ∀ p, ov = some (.ref p) → sl.mut = true → B p = none → B' p = none) : SlOk K A B' H' sl ov := by
  cases s with
  | em => exact .em
  | im r => exact .im (r.mono hB)
  | ow b h c =>
    refine .ow (hN _ rfl rfl b) h ?_
    rw [hH _ _ rfl rfl c]
    exact c.mono hB
  | io h c =>
    refine .io h ?_
    rw [hH _ _ rfl rfl c]
    exact c.mono hB
theorem SlOk.held {sl : Sl} {ov : Option V} (s : SlOk K A B H sl ov) (m : sl.mut = true) : ∃ p d o, ov = some (.ref p) ∧ (sl = .ow d ∨ ∃ j, sl = .io j d) ∧ H p = some o ∧ Cont K B d (some o) := by
  cases s with
  | em => cases m
  | im _ => cases m
  | ow b h c =>
    obtain ⟨o, e⟩ := c.some
    exact ⟨_, _, o, rfl, .inl rfl, e, by rw [← e]; exact c⟩
  | io h c =>
    obtain ⟨o, e⟩ := c.some
    exact ⟨_, _, o, rfl, .inr ⟨_, rfl⟩, e, by rw [← e]; exact c⟩
/-- a new object, not frozen -/
theorem SR.laid (S : SR K A B H σ env) {p : Addr} {o : HO} (h : H p = none) : SR K A B (upd H p o) σ env := by
  obtain ⟨b, h0, hio⟩ := S.new h
  refine ⟨S.len, fun a u e => ?_, fun i sl ov e1 e2 => ?_, S.inj, fun a u e n => ?_, fun a n => ?_, S.ioh, fun q hq => ⟨tab_upd (S.tab q hq).1 (fun ps z => by rw [h] at z; cases z) (fun c q z => by rw [h] at z; cases z), (S.tab q hq).2⟩⟩
  · have := S.same a u e
    rw [upd_ne (ne_of_none this h)]
    exact this
  · have s := S.slot i sl ov e1 e2
    refine s.grow (Same.refl _) (fun q d e m c => ?_) (fun _ _ _ z => z)
    obtain ⟨u, hu⟩ := c.some
    exact upd_ne (ne_of_none hu h)
  · obtain ⟨e1, e2⟩ := S.anc a u e n
    exact ⟨by rw [upd_ne (ne_of_none e1 h)]; exact e1, e2⟩
  · obtain ⟨b', u, e, nt⟩ := S.iob a n
    exact ⟨b', u, by rw [upd_ne (ne_of_none e h)]; exact e, nt⟩
/-- an object of this def's own that no slot holds is frozen -/
theorem SR.freeze (S : SR K A B H σ env) {p : Addr} {o : HO} (h : H p = some o) (b : B p = none) (h0 : A.H0 p = none) (hs : ∀ (i : Nat) (sl : Sl), env[i]? = some sl → sl.mut = true → σ[i]? ≠ some (some (V.ref p))) (nt : p ∉ tbA) : SR K A (upd B p o) H σ env := by
  have hB : Same B (upd B p o) := fun a u e => by
    rw [upd_ne (ne_of_none e b)]
    exact e
  have nio : ¬ A.isIo p := fun z => by
    obtain ⟨u, e⟩ := S.ioh p z
    rw [h0] at e
    cases e
  refine ⟨S.len, fun a u e => ?_, fun i sl ov e1 e2 => ?_, S.inj, fun a u e n => ?_, fun a n => ?_, S.ioh, fun q hq => ⟨(S.tab q hq).1, by rw [upd_ne (tne nt hq)]; exact (S.tab q hq).2.1, (S.tab q hq).2.2⟩⟩
  · by_cases ha : a = p
    · subst ha
      rw [upd_same] at e
      cases e
      exact h
    · rw [upd_ne ha] at e
      exact S.same a u e
  · have s := S.slot i sl ov e1 e2
    refine s.grow hB (fun _ _ _ _ _ => rfl) (fun q e m z => ?_)
    have : q ≠ p := fun z => hs i sl e1 m (by rw [e2, e, z])
    rw [upd_ne this]
    exact z
  · obtain ⟨e1, e2⟩ := S.anc a u e n
    have : a ≠ p := fun z => by
      rw [z, h0] at e
      cases e
    exact ⟨e1, by rw [upd_ne this]; exact e2⟩
  · obtain ⟨b', u⟩ := S.iob a n
    have : a ≠ p := fun z => nio (z ▸ n)
    exact ⟨by rw [upd_ne this]; exact b', u⟩
/-- a tuple is frozen, whose ever it is -/
theorem SR.freezeT (S : SR K A B H σ env) {p : Addr} {xs : List V} (h : H p = some (.tup xs)) : ∃ B', Same B B' ∧ SR K A B' H σ env ∧ B' p = some (.tup xs) := by
  cases b : B p with
  | some u =>
    have := S.same p u b
    rw [h] at this
    cases this
    exact ⟨B, Same.refl _, S, b⟩
  | none =>
    have hB : Same B (upd B p (.tup xs)) := fun a u e => by
      rw [upd_ne (ne_of_none e b)]
      exact e
    refine ⟨upd B p (.tup xs), hB, ⟨S.len, fun a u e => ?_, fun i sl ov e1 e2 => ?_, S.inj, fun a u e n => ?_, fun a n => ?_, S.ioh, fun q hq => ⟨(S.tab q hq).1, by rw [upd_ne (tne (S.tN fun ps z => by rw [h] at z; cases z) hq)]; exact (S.tab q hq).2.1, (S.tab q hq).2.2⟩⟩, upd_same⟩
    · by_cases ha : a = p
      · subst ha
        rw [upd_same] at e
        cases e
        exact h
      · rw [upd_ne ha] at e
        exact S.same a u e
    · have s := S.slot i sl ov e1 e2
      refine s.grow hB (fun _ _ _ _ _ => rfl) (fun q e m z => ?_)
      obtain ⟨q', d, u, f1, _, f2, f3⟩ := s.held m
      have : q ≠ p := fun z => by
        subst z
        rw [e] at f1
        cases f1
        rw [h] at f2
        cases f2
        exact f3.nt _ rfl
      rw [upd_ne this]
      exact z
    · obtain ⟨e1, e2⟩ := S.anc a u e n
      by_cases ha : a = p
      · subst ha
        rw [h] at e1
        cases e1
        exact ⟨h, .inr ⟨_, rfl⟩⟩
      · exact ⟨e1, by rw [upd_ne ha]; exact e2⟩
    · obtain ⟨b', u, e, nt⟩ := S.iob a n
      have : a ≠ p := fun z => by
        subst z
        rw [h] at e
        cases e
        exact nt _ rfl
      exact ⟨by rw [upd_ne this]; exact b', u, e, nt⟩
/-- a new object is frozen at once -/
theorem SR.laidF (S : SR K A B H σ env) {p : Addr} {o : HO} (h : H p = none) : SR K A (upd B p o) (upd H p o) σ env ∧ Same B (upd B p o) := by
  obtain ⟨b, h0, _⟩ := S.new h
  refine ⟨(S.laid h).freeze upd_same b h0 (fun i sl e m z => ?_) ?_, fun a u e => ?_⟩
  · obtain ⟨q, d, u, e1, _, e2, _⟩ := (S.slot i sl _ e z).held m
    cases e1
    rw [h] at e2
    cases e2
  · exact S.tE h
  · rw [upd_ne (ne_of_none e b)]
    exact e
/-- a held slot more, behind all -/
theorem SR.push (S : SR K A B H σ env) {p : Addr} {o : HO} {d : D} (h : H p = none) (c : Cont K B d (some o)) : SR K A B (upd H p o) (σ ++ [some (.ref p)]) (env ++ [.ow d]) := by
  obtain ⟨b, h0, hio⟩ := S.new h
  have S1 := S.laid (o := o) h
  have old : ∀ (i : Nat) (sl : Sl), env[i]? = some sl → sl.mut = true → σ[i]? ≠ some (some (V.ref p)) := fun i sl e m z => by
    obtain ⟨q, d, u, e1, _, e2, _⟩ := (S.slot i sl _ e z).held m
    cases e1
    rw [h] at e2
    cases e2
  have ge : ∀ i sl, (env ++ [Sl.ow d])[i]? = some sl → (env[i]? = some sl ∧ i < env.length) ∨ (i = env.length ∧ sl = .ow d) := fun i sl e => by
    by_cases hi : i < env.length
    · rw [List.getElem?_append_left hi] at e
      exact .inl ⟨e, hi⟩
    · rw [List.getElem?_append_right (by omega)] at e
      obtain ⟨h1, h2⟩ := List.getElem?_eq_some_iff.mp e
      have h3 : i - env.length = 0 := by simpa using h1
      refine .inr ⟨by omega, ?_⟩
      simp [h3] at h2
      exact h2.symm
  have gs : ∀ i, i < env.length → (σ ++ [some (V.ref p)])[i]? = σ[i]? := fun i hi => List.getElem?_append_left (by rw [S.len]; exact hi)
  have gl : (σ ++ [some (V.ref p)])[env.length]? = some (some (.ref p)) := by
    rw [← S.len]
    simp
  refine ⟨by simp [S.len], S1.same, fun i sl ov e1 e2 => ?_, fun i j q sl sl' ne e1 e2 m1 m2 e3 e4 => ?_, S1.anc, S1.iob, S1.ioh, S1.tab⟩
  · rcases ge i sl e1 with ⟨e, hi⟩ | ⟨rfl, rfl⟩
    · rw [gs i hi] at e2
      exact S1.slot i sl ov e e2
    · rw [gl] at e2
      cases e2
      exact .ow b h0 (by rw [upd_same]; exact c)
  · rcases ge i sl e1 with ⟨e, hi⟩ | ⟨rfl, rfl⟩
    · rw [gs i hi] at e3
      rcases ge j sl' e2 with ⟨e', hj⟩ | ⟨rfl, rfl⟩
      · rw [gs j hj] at e4
        exact S.inj i j q sl sl' ne e e' m1 m2 e3 e4
      · rw [gl] at e4
        cases e4
        exact old i sl e m1 e3
    · rw [gl] at e3
      cases e3
      rcases ge j sl' e2 with ⟨e', hj⟩ | ⟨rfl, rfl⟩
      · rw [gs j hj] at e4
        exact old j sl' e' m2 e4
      · exact ne rfl
/-- fewer slots -/
theorem SR.front {σ2 : L2.St} {env2 : Env} (S : SR K A B H (σ ++ σ2) (env ++ env2)) (hl : σ.length = env.length) : SR K A B H σ env := by
  have ge : ∀ i sl, env[i]? = some sl → (env ++ env2)[i]? = some sl := fun i sl e => by
    rw [List.getElem?_append_left (List.getElem?_eq_some_iff.mp e).1]
    exact e
  have gs : ∀ i ov, σ[i]? = some ov → (σ ++ σ2)[i]? = some ov := fun i ov e => by
    rw [List.getElem?_append_left (List.getElem?_eq_some_iff.mp e).1]
    exact e
  exact ⟨hl, S.same, fun i sl ov e1 e2 => S.slot i sl ov (ge _ _ e1) (gs _ _ e2), fun i j p sl sl' ne e1 e2 m1 m2 e3 e4 => S.inj i j p sl sl' ne (ge _ _ e1) (ge _ _ e2) m1 m2 (gs _ _ e3) (gs _ _ e4), S.anc, S.iob, S.ioh, S.tab⟩
/-- a slot is set to frozen data, or forgotten -/
theorem SR.setIm (S : SR K A B H σ env) {i : Nat} {v : V} {d : D} (r : Rp K B d v) : SR K A B H (σ.set i (some v)) (env.set i (.im d)) := by
  refine ⟨by simp [S.len], S.same, fun j sl ov e1 e2 => ?_, fun j k p sl sl' ne e1 e2 m1 m2 e3 e4 => ?_, S.anc, S.iob, S.ioh, S.tab⟩
  · by_cases hj : i = j
    · subst hj
      have h1 : i < (env.set i (.im d)).length := (List.getElem?_eq_some_iff.mp e1).1
      have h2 : i < env.length := by simpa using h1
      rw [List.getElem?_set_self h2] at e1
      rw [List.getElem?_set_self (by rw [S.len]; exact h2)] at e2
      cases e1
      cases e2
      exact .im r
    · rw [List.getElem?_set_ne hj] at e1 e2
      exact S.slot j sl ov e1 e2
  · have key : ∀ j sl, (env.set i (Sl.im d))[j]? = some sl → sl.mut = true → i ≠ j ∧ env[j]? = some sl := fun j sl e m => by
      by_cases hj : i = j
      · subst hj
        have h1 : i < (env.set i (.im d)).length := (List.getElem?_eq_some_iff.mp e).1
        rw [List.getElem?_set_self (by simpa using h1)] at e
        cases e
        cases m
      · rw [List.getElem?_set_ne hj] at e
        exact ⟨hj, e⟩
    obtain ⟨n1, f1⟩ := key j sl e1 m1
    obtain ⟨n2, f2⟩ := key k sl' e2 m2
    rw [List.getElem?_set_ne n1] at e3
    rw [List.getElem?_set_ne n2] at e4
    exact S.inj j k p sl sl' ne f1 f2 m1 m2 e3 e4
theorem SR.setEm (S : SR K A B H σ env) {i : Nat} {ov : Option V} : SR K A B H (σ.set i ov) (env.set i .em) := by
  refine ⟨by simp [S.len], S.same, fun j sl ov' e1 e2 => ?_, fun j k p sl sl' ne e1 e2 m1 m2 e3 e4 => ?_, S.anc, S.iob, S.ioh, S.tab⟩
  · by_cases hj : i = j
    · subst hj
      have h1 : i < (env.set i .em).length := (List.getElem?_eq_some_iff.mp e1).1
      rw [List.getElem?_set_self (by simpa using h1)] at e1
      cases e1
      exact .em
    · rw [List.getElem?_set_ne hj] at e1 e2
      exact S.slot j sl ov' e1 e2
  · have key : ∀ j sl, (env.set i Sl.em)[j]? = some sl → sl.mut = true → i ≠ j ∧ env[j]? = some sl := fun j sl e m => by
      by_cases hj : i = j
      · subst hj
        have h1 : i < (env.set i .em).length := (List.getElem?_eq_some_iff.mp e).1
        rw [List.getElem?_set_self (by simpa using h1)] at e
        cases e
        cases m
      · rw [List.getElem?_set_ne hj] at e
        exact ⟨hj, e⟩
    obtain ⟨n1, f1⟩ := key j sl e1 m1
    obtain ⟨n2, f2⟩ := key k sl' e2 m2
    rw [List.getElem?_set_ne n1] at e3
    rw [List.getElem?_set_ne n2] at e4
    exact S.inj j k p sl sl' ne f1 f2 m1 m2 e3 e4
/-- the slots at two places of the list change places: only what stands matters -/
theorem SR.sub {σ' : L2.St} {env' : Env} (S : SR K A B H σ env) (hl : σ'.length = env'.length) (f : Nat → Nat) (hf : ∀ i j sl sl', env'[i]? = some sl → env'[j]? = some sl' → sl.mut = true → sl'.mut = true → f i = f j → i = j)
    (he : ∀ i sl, env'[i]? = some sl → sl ≠ .em → env[f i]? = some sl ∧ σ'[i]? = σ[f i]?) : SR K A B H σ' env' := by
  refine ⟨hl, S.same, fun i sl ov e1 e2 => ?_, fun i j p sl sl' ne e1 e2 m1 m2 e3 e4 => ?_, S.anc, S.iob, S.ioh, S.tab⟩
  · cases sl with
    | em => exact .em
    | im d =>
      obtain ⟨h1, h2⟩ := he i _ e1 (by simp)
      exact S.slot (f i) _ ov h1 (by rw [← h2]; exact e2)
    | ow d =>
      obtain ⟨h1, h2⟩ := he i _ e1 (by simp)
      exact S.slot (f i) _ ov h1 (by rw [← h2]; exact e2)
    | io d =>
      obtain ⟨h1, h2⟩ := he i _ e1 (by simp)
      exact S.slot (f i) _ ov h1 (by rw [← h2]; exact e2)
  · have n1 : sl ≠ .em := fun z => by subst z; cases m1
    have n2 : sl' ≠ .em := fun z => by subst z; cases m2
    obtain ⟨h1, h2⟩ := he i _ e1 n1
    obtain ⟨h3, h4⟩ := he j _ e2 n2
    refine S.inj (f i) (f j) p sl sl' (fun z => ne (hf i j sl sl' e1 e2 m1 m2 z)) h1 h3 m1 m2 (by rw [← h2]; exact e3) (by rw [← h4]; exact e4)
/-- the container that a slot holds is written -/
theorem SR.write (S : SR K A B H σ env) {i : Nat} {p : Addr} {sl sl' : Sl} {o : HO} {d d' : D} (he : env[i]? = some sl) (hs : (sl = .ow d ∧ sl' = .ow d') ∨ (∃ j, sl = .io j d ∧ sl' = .io j d')) (hv : σ[i]? = some (some (.ref p))) (c : Cont K B d' (some o)) :
    SR K A B (upd H p o) σ (env.set i sl') := by
  have hi : i < env.length := (List.getElem?_eq_some_iff.mp he).1
  have m : sl.mut = true := by rcases hs with ⟨rfl, rfl⟩ | ⟨j0, rfl, rfl⟩ <;> rfl
  have bp : B p = none := by
    have s := S.slot i sl _ he hv
    rcases hs with ⟨rfl, rfl⟩ | ⟨j0, rfl, rfl⟩
    · cases s with
      | ow b _ _ => exact b
    · cases s with
      | io h _ => exact (S.iob p ⟨_, h⟩).1
  have old : ∀ (j : Nat) (sl2 : Sl), j ≠ i → env[j]? = some sl2 → sl2.mut = true → σ[j]? ≠ some (some (V.ref p)) := fun j sl2 ne e m2 z => S.inj j i p sl2 sl ne e he m2 m z hv
  have gi : ∀ j sl2, (env.set i sl')[j]? = some sl2 → (j = i ∧ sl2 = sl') ∨ (j ≠ i ∧ env[j]? = some sl2) := fun j sl2 e => by
    by_cases hj : i = j
    · subst hj
      rw [List.getElem?_set_self hi] at e
      cases e
      exact .inl ⟨rfl, rfl⟩
    · rw [List.getElem?_set_ne hj] at e
      exact .inr ⟨fun z => hj z.symm, e⟩
  have cp : ∃ d0, Cont K B d0 (H p) := by
    have s := S.slot i sl _ he hv
    rcases hs with ⟨rfl, rfl⟩ | ⟨j0, rfl, rfl⟩
    · cases s with
      | ow _ _ c0 => exact ⟨_, c0⟩
    · cases s with
      | io _ c0 => exact ⟨_, c0⟩
  obtain ⟨d0, cp⟩ := cp
  refine ⟨by simp [S.len], fun a u e => ?_, fun j sl2 ov e1 e2 => ?_, fun j k q s1 s2 ne e1 e2 m1 m2 e3 e4 => ?_, fun a u e n => ?_, fun a n => ?_, S.ioh, fun q hq => ⟨tab_upd (S.tab q hq).1 (fun ps z => by rw [z] at cp; exact cp.ntab.1 _ rfl) (fun c q z => by rw [z] at cp; exact cp.ntab.2 _ _ rfl), (S.tab q hq).2⟩⟩
  · rw [upd_ne (ne_of_none e bp)]
    exact S.same a u e
  · rcases gi j sl2 e1 with ⟨rfl, rfl⟩ | ⟨ne, e⟩
    · rw [hv] at e2
      cases e2
      have s := S.slot j sl _ he hv
      rcases hs with ⟨rfl, rfl⟩ | ⟨j0, rfl, rfl⟩
      · cases s with
        | ow b h _ => exact .ow b h (by rw [upd_same]; exact c)
      · cases s with
        | io h _ => exact .io h (by rw [upd_same]; exact c)
    · refine (S.slot j sl2 ov e e2).grow (Same.refl _) (fun q d eo m2 _ => ?_) (fun _ _ _ z => z)
      exact upd_ne fun z => old j sl2 ne e m2 (by rw [e2, eo, z])
  · have mm : sl'.mut = true := by rcases hs with ⟨rfl, rfl⟩ | ⟨j0, rfl, rfl⟩ <;> rfl
    rcases gi j s1 e1 with ⟨rfl, rfl⟩ | ⟨n1, f1⟩
    · rcases gi k s2 e2 with ⟨rfl, rfl⟩ | ⟨n2, f2⟩
      · exact ne rfl
      · exact S.inj j k q sl s2 ne he f2 m m2 e3 e4
    · rcases gi k s2 e2 with ⟨rfl, rfl⟩ | ⟨n2, f2⟩
      · exact S.inj j k q s1 sl ne f1 he m1 m e3 e4
      · exact S.inj j k q s1 s2 ne f1 f2 m1 m2 e3 e4
  · have ne : a ≠ p := fun z => by
      subst z
      have s := S.slot i sl _ he hv
      rcases hs with ⟨rfl, rfl⟩ | ⟨j0, rfl, rfl⟩
      · cases s with
        | ow _ h _ =>
          rw [h] at e
          cases e
      · cases s with
        | io h _ => exact n ⟨_, h⟩
    obtain ⟨e1, e2⟩ := S.anc a u e n
    exact ⟨by rw [upd_ne ne]; exact e1, e2⟩
  · obtain ⟨b', u, e, nt⟩ := S.iob a n
    by_cases ha : a = p
    · subst ha
      exact ⟨b', o, upd_same, c.nt⟩
    · exact ⟨b', u, by rw [upd_ne ha]; exact e, nt⟩
/-- a slot's own container is frozen where it stands -/
theorem SR.freezeAt (S : SR K A B H σ env) {i : Nat} {p : Addr} {d : D} (he : env[i]? = some (.ow d)) (hv : σ[i]? = some (some (.ref p))) :
    ∃ o, H p = some o ∧ SR K A (upd B p o) H σ (env.set i (.im d)) ∧ Same B (upd B p o) ∧ Rp K (upd B p o) d (.ref p) := by
  have hi : i < env.length := (List.getElem?_eq_some_iff.mp he).1
  cases S.slot i _ _ he hv with
  | ow b h0 c =>
    obtain ⟨o, ho⟩ := c.some
    have hB : Same B (upd B p o) := fun a u e => by
      rw [upd_ne (ne_of_none e b)]
      exact e
    have S1 : SR K A B H σ (env.set i .em) := by
      have := S.setEm (i := i) (ov := some (.ref p))
      have e : σ.set i (some (V.ref p)) = σ := by
        apply List.ext_getElem?
        intro j
        by_cases hj : i = j
        · subst hj
          rw [List.getElem?_set_self (by rw [S.len]; exact hi), hv]
        · rw [List.getElem?_set_ne hj]
      rw [e] at this
      exact this
    have S2 : SR K A (upd B p o) H σ (env.set i .em) := by
      refine S1.freeze ho b h0 (fun j sl e m z => ?_) ?_
      by_cases hj : i = j
      · subst hj
        rw [List.getElem?_set_self hi] at e
        cases e
        cases m
      · rw [List.getElem?_set_ne hj] at e
        exact S.inj j i p sl _ (fun z => hj z.symm) e he m rfl z hv
      · exact S.tC c
    have r : Rp K (upd B p o) d (.ref p) := by
      rw [ho] at c
      exact c.frozen hB upd_same
    refine ⟨o, ho, ?_, hB, r⟩
    have S3 := S2.setIm (i := i) r
    have e : σ.set i (some (V.ref p)) = σ := by
      apply List.ext_getElem?
      intro j
      by_cases hj : i = j
      · subst hj
        rw [List.getElem?_set_self (by rw [S.len]; exact hi), hv]
      · rw [List.getElem?_set_ne hj]
    rw [e, List.set_set] at S3
    exact S3
end
end PD
namespace PD
variable [PD.TabL]
open PySem PySem.Spec PyProof.Rows L2

/-- what an expression gives: frozen data; a new list or dict that nobody else holds; the container that a slot holds -/
inductive Vl where
  | im (d : D) | fr (d : D) | bo (i : Nat)
abbrev M (α : Type) := Env → Option (α × Env)
def rt {α : Type} (a : α) : M α := fun e => some (a, e)
def bd {α β : Type} (m : M α) (f : α → M β) : M β := fun e => match m e with
  | some (a, e') => f a e'
  | none => none
def Vl.hold : Vl → Vl
  | .fr d => .im d
  | v => v
/-- a value's content now -/
def cnt (e : Env) : Vl → Option D
  | .im d => some d
  | .fr d => some d
  | .bo i => match e[i]? with
    | some (.im d) => some d
    | some (.ow d) => some d
    | some (.io _ d) => some d
    | _ => none
def cnts (e : Env) : List Vl → Option (List D)
  | [] => some []
  | v :: r => match cnt e v, cnts e r with
    | some d, some ds => some (d :: ds)
    | _, _ => none
/-- .. frozen for good -/
def frz : Vl → M D
  | .im d => rt d
  | .fr d => rt d
  | .bo i => fun e => match e[i]? with
    | some (.im d) => some (d, e)
    | some (.ow d) => some (d, e.set i (.im d))
    | _ => none
def frzs : List Vl → M (List D)
  | [] => rt []
  | v :: r => bd (frz v) fun d => bd (frzs r) fun ds => rt (d :: ds)

section
variable (K : PySem.W.Frag) (A : Anc)
/-- a value stands for what is known of it -/
def VR (B H : Hp) (σ τ : L2.St) (env pe : Env) : Vl → V → Prop
  | .im d, v => SR K A B H (σ ++ τ) (env ++ pe) ∧ Rp K B d v
  | .fr d, v => SR K A B H (σ ++ τ ++ [some v]) (env ++ pe ++ [.ow d])
  | .bo i, v => SR K A B H (σ ++ τ) (env ++ pe) ∧ σ[i]? = some (some v)
def Hv (B : Hp) (σ : L2.St) : Vl → V → Prop
  | .im d, v => Rp K B d v
  | .fr _, _ => False
  | .bo i, v => σ[i]? = some (some v)
def SEX (t : TE) (m : M Vl) : Prop := ∀ (σ τ : L2.St) (B H : Hp) (env pe env' : Env) (r : Vl) (Q : VK), SR K A B H (σ ++ τ) (env ++ pe) → σ.length = env.length → m env = some (r, env') →
  (∀ B' H' v, Same B B' → σ.length = env'.length → VR K A B' H' σ τ env' pe r v → Q v H') → t σ H Q
def SAX (t : TA) (m : M (List Vl)) : Prop := ∀ (σ τ : L2.St) (B H : Hp) (env pe env' : Env) (rs : List Vl) (Q : List V → Hp → Prop), SR K A B H (σ ++ τ) (env ++ pe) → σ.length = env.length → m env = some (rs, env') →
  (∀ B' H' vs, Same B B' → σ.length = env'.length → SR K A B' H' (σ ++ τ) (env' ++ pe) → Paired (Hv K B' σ) rs vs → Q vs H') → t σ H Q
def STX (t : TT) (m : M Bool) : Prop := ∀ (σ τ : L2.St) (B H : Hp) (env pe env' : Env) (b : Bool) (Q : Bool → Hp → Prop), SR K A B H (σ ++ τ) (env ++ pe) → σ.length = env.length → m env = some (b, env') →
  (∀ B' H', Same B B' → σ.length = env'.length → SR K A B' H' (σ ++ τ) (env' ++ pe) → Q b H') → t σ H Q
end

section
variable {K : PySem.W.Frag} {A : Anc} {B H : Hp} {σ τ : L2.St} {env pe : Env}
theorem list_set_self {α : Type} {l : List α} {i : Nat} {a : α} (h : l[i]? = some a) : l.set i a = l := by
  have hi := (List.getElem?_eq_some_iff.mp h).1
  apply List.ext_getElem?
  intro j
  by_cases hj : i = j
  · subst hj
    rw [List.getElem?_set_self hi, h]
  · rw [List.getElem?_set_ne hj]
/-- a pending value is frozen (unless a slot holds it) -/
theorem VR.held {r : Vl} {v : V} (h : VR K A B H σ τ env pe r v) : ∃ B', Same B B' ∧ SR K A B' H (σ ++ τ) (env ++ pe) ∧ Hv K B' σ r.hold v := by
  cases r with
  | im d => exact ⟨B, Same.refl _, h.1, h.2⟩
  | bo i => exact ⟨B, Same.refl _, h.1, h.2⟩
  | fr d =>
    have S : SR K A B H (σ ++ τ ++ [some v]) (env ++ pe ++ [.ow d]) := h
    have hl : (σ ++ τ).length = (env ++ pe).length := by
      have := S.len
      simp only [List.length_append, List.length_cons, List.length_nil] at this ⊢
      omega
    have e1 : (env ++ pe ++ [Sl.ow d])[(env ++ pe).length]? = some (.ow d) := by simp
    have e2 : (σ ++ τ ++ [some v])[(env ++ pe).length]? = some (some v) := by
      rw [← hl]
      simp
    cases S.slot _ _ _ e1 e2 with
    | ow b h0 c =>
      obtain ⟨o, ho, S1, hB, rr⟩ := S.freezeAt e1 e2
      refine ⟨_, hB, ?_, rr⟩
      have e3 : (env ++ pe ++ [Sl.ow d]).set (env ++ pe).length (.im d) = env ++ pe ++ [.im d] := by simp
      rw [e3] at S1
      exact S1.front hl
theorem SR.at (S : SR K A B H (σ ++ τ) (env ++ pe)) (hl : σ.length = env.length) {i : Nat} {sl : Sl} {ov : Option V} (e1 : env[i]? = some sl) (e2 : σ[i]? = some ov) : SlOk K A B H sl ov := by
  refine S.slot i sl ov ?_ ?_
  · rw [List.getElem?_append_left (List.getElem?_eq_some_iff.mp e1).1]
    exact e1
  · rw [List.getElem?_append_left (List.getElem?_eq_some_iff.mp e2).1]
    exact e2
/-- v stands for d: frozen, or the content of a container that stands in the heap -/
inductive Rr (K : PySem.W.Frag) (B H : Hp) : D → V → Prop
  | fz {d : D} {v : V} : Rp K B d v → Rr K B H d v
  | ct {d : D} {p : Addr} : Cont K B d (H p) → Rr K B H d (.ref p)
theorem Rr.lst {ds : List D} {v : V} (s : Same B H) (h : Rr K B H (.lst ds) v) : ∃ a xs, v = .ref a ∧ H a = some (.lst xs) ∧ Rps K B ds xs := by
  cases h with
  | fz r =>
    cases r with
    | lst h r => exact ⟨_, _, rfl, s _ _ h, r⟩
  | ct c =>
    rename_i p
    generalize e : H p = o at c
    cases c with
    | lst r => exact ⟨_, _, rfl, e, r⟩
theorem Rr.ty {n : String} {v : V} (h : Rr K B H (.ty n) v) : v = .ty n := by
  cases h with
  | fz r => cases r; rfl
  | ct c =>
    rename_i p
    generalize e : H p = o at c
    cases c
theorem Rr.sc {ns : List Int} {v : V} (s : Same B H) (h : Rr K B H (.sc ns) v) : ∃ a, v = .ref a ∧ SqL K H a (ns.map V.int) := by
  cases h with
  | fz r =>
    cases r with
    | sc h => exact ⟨_, rfl, sameL s h⟩
  | ct c =>
    rename_i p
    generalize e : H p = o at c
    cases c
theorem Rr.tup {ds : List D} {v : V} (s : Same B H) (h : Rr K B H (.tup ds) v) : ∃ a xs, v = .ref a ∧ H a = some (.tup xs) ∧ TuT K B a xs ∧ Rps K B ds xs := by
  cases h with
  | fz r =>
    cases r with
    | tup h r => exact ⟨_, _, rfl, h.same s, h, r⟩
  | ct c =>
    rename_i p
    generalize e : H p = o at c
    cases c
theorem Rr.tp {ds : List D} {v : V} (s : Same B H) (h : Rr K B H (.tp ds) v) : ∃ a o xs, v = .ref a ∧ H a = some (.frz o (.tup xs)) ∧ o.dict = none ∧ Rps K B ds xs := by
  cases h with
  | fz r =>
    cases r with
    | tp h d r => exact ⟨_, _, _, rfl, s _ _ h, d, r⟩
  | ct c =>
    rename_i p
    generalize e : H p = o at c
    cases c
theorem Rr.int {i : Int} {v : V} (h : Rr K B H (.int i) v) : v = .int i := by
  cases h with
  | fz r => cases r; rfl
  | ct c =>
    rename_i p
    generalize e : H p = o at c
    cases c
theorem Rr.bl {b : Bool} {v : V} (h : Rr K B H (.bl b) v) : v = .bl b := by
  cases h with
  | fz r => cases r; rfl
  | ct c =>
    rename_i p
    generalize e : H p = o at c
    cases c
theorem Rr.non {v : V} (h : Rr K B H .non v) : v = .non := by
  cases h with
  | fz r => cases r; rfl
  | ct c =>
    rename_i p
    generalize e : H p = o at c
    cases c
theorem Rr.str {x : Str} {v : V} (h : Rr K B H (.str x) v) : v = .str x ∧ PyData.strOk x = true := by
  cases h with
  | fz r =>
    cases r with
    | str _ h => exact ⟨rfl, h⟩
  | ct c =>
    rename_i p
    generalize e : H p = o at c
    cases c
theorem Rr.kf {es : List (Key × D)} {v : V} (s : Same B H) (h : Rr K B H (.kf es) v) : ∃ a o kvs, v = .ref a ∧ H a = some (.frz o (.dK kvs)) ∧ es.map (·.1) = kvs.map (·.1) ∧ Rps K B (es.map (·.2)) (kvs.map (·.2)) := by
  cases h with
  | fz r =>
    cases r with
    | kf h e r => exact ⟨_, _, _, rfl, s _ _ h, e, r⟩
  | ct c =>
    rename_i p
    generalize e : H p = o at c
    cases c
theorem Rr.tf {es : List (List Key × D)} {v : V} (s : Same B H) (h : Rr K B H (.tf es) v) : ∃ a o kvs, v = .ref a ∧ H a = some (.frz o (.dT kvs)) ∧ es.map (·.1) = kvs.map (·.1) ∧ Rps K B (es.map (·.2)) (kvs.map (·.2)) := by
  cases h with
  | fz r =>
    cases r with
    | tf h e r => exact ⟨_, _, _, rfl, s _ _ h, e, r⟩
  | ct c =>
    rename_i p
    generalize e : H p = o at c
    cases c
theorem Rr.dk {es : List (Key × D)} {v : V} (s : Same B H) (h : Rr K B H (.dk es) v) : ∃ a kvs, v = .ref a ∧ H a = some (.dK kvs) ∧ es.map (·.1) = kvs.map (·.1) ∧ Rps K B (es.map (·.2)) (kvs.map (·.2)) := by
  cases h with
  | fz r =>
    cases r with
    | dk h e r => exact ⟨_, _, rfl, s _ _ h, e, r⟩
  | ct c =>
    rename_i p
    generalize e : H p = o at c
    cases c with
    | dk e1 r => exact ⟨_, _, rfl, e, e1, r⟩
theorem Rr.dt {es : List (List Key × D)} {v : V} (s : Same B H) (h : Rr K B H (.dt es) v) : ∃ a kvs, v = .ref a ∧ H a = some (.dT kvs) ∧ es.map (·.1) = kvs.map (·.1) ∧ Rps K B (es.map (·.2)) (kvs.map (·.2)) := by
  cases h with
  | fz r =>
    cases r with
    | dt h e r => exact ⟨_, _, rfl, s _ _ h, e, r⟩
  | ct c =>
    rename_i p
    generalize e : H p = o at c
    cases c with
    | dt e1 r => exact ⟨_, _, rfl, e, e1, r⟩
theorem Hv.rr {r : Vl} {v : V} {d : D} (S : SR K A B H (σ ++ τ) (env ++ pe)) (hl : σ.length = env.length) (h : Hv K B σ r v) (c : cnt env r = some d) : Rr K B H d v := by
  cases r with
  | im d' =>
    cases c
    exact .fz h
  | fr d' => exact h.elim
  | bo i =>
    have h : σ[i]? = some (some v) := h
    unfold cnt at c
    dsimp only at c
    split at c
    · rename_i d' e
      cases c
      cases S.at hl e h with
      | im r => exact .fz r
    · rename_i d' e
      cases c
      cases S.at hl e h with
      | ow b h0 cc => exact .ct cc
    · rename_i d' e
      cases c
      cases S.at hl e h with
      | io h0 cc => exact .ct cc
    · cases c
theorem Hv.rrs (S : SR K A B H (σ ++ τ) (env ++ pe)) (hl : σ.length = env.length) : ∀ {rs : List Vl} {vs : List V} {ds : List D}, Paired (Hv K B σ) rs vs → cnts env rs = some ds → Paired (Rr K B H) ds vs
  | _, _, ds, .nil, c => by
    cases c
    exact .nil
  | r :: rs, v :: vs, ds, .cons h t, c => by
    unfold cnts at c
    split at c
    · rename_i d ds' e1 e2
      cases c
      exact .cons (Hv.rr S hl h e1) (Hv.rrs S hl t e2)
    · cases c
theorem Hv.mono {B' : Hp} (s : Same B B') {r : Vl} {v : V} (h : Hv K B σ r v) : Hv K B' σ r v := by
  cases r with
  | im d => exact Rp.mono s h
  | fr d => exact h
  | bo i => exact h
end

def cN : M (List Vl) := rt []
def cA (m : M Vl) (ms : M (List Vl)) : M (List Vl) := bd m fun r => bd ms fun rs => rt (r.hold :: rs)
section
variable {K : PySem.W.Frag} {A : Anc}
theorem sa_nil : SAX K A tNil cN := fun σ τ B H env pe env' rs Q S hl e q => by
  cases e
  exact q B H [] (Same.refl _) hl S .nil
theorem sa_cons {t : TE} {ts : TA} {m : M Vl} {ms : M (List Vl)} (h : SEX K A t m) (hs : SAX K A ts ms) : SAX K A (tCons t ts) (cA m ms) := fun σ τ B H env pe env' rs Q S hl e q => by
  unfold cA bd at e
  split at e
  · rename_i r e1 he
    try dsimp only at e
    split at e
    · rename_i rs' e2 hes
      try dsimp only at e
      cases e
      refine h σ τ B H env pe e1 r _ S hl he fun B1 H1 v s1 hl1 hv => ?_
      obtain ⟨B2, s2, S2, hh⟩ := hv.held
      refine hs σ τ B2 H1 e1 pe _ rs' _ S2 hl1 hes fun B3 H3 vs s3 hl3 S3 hr => ?_
      exact q B3 H3 (v :: vs) ((s1.trans s2).trans s3) hl3 S3 (.cons (hh.mono s3) hr)
    · cases e
  · cases e
end

/-- a rule by values does f -/
def VRp (K : PySem.W.Frag) (A : Anc) (B H : Hp) (vs : L2.St) (env : Env) : Vl → V → Prop
  | .im d, v => SR K A B H vs env ∧ Rp K B d v
  | .fr d, v => SR K A B H (vs ++ [some v]) (env ++ [.ow d])
  | .bo _, _ => False
def PrS (K : PySem.W.Frag) (r : List V → Hp → VK → Prop) (f : List D → Option Vl) : Prop :=
  ∀ (A : Anc) (B H : Hp) (vs : L2.St) (env : Env) (xs : List V) (ds : List D) (res : Vl) (Q : VK), SR K A B H vs env → Paired (Rr K B H) ds xs → f ds = some res → (∀ B' H' v, Same B B' → VRp K A B' H' vs env res v → Q v H') → r xs H Q
def eP (f : List D → Option Vl) (ms : M (List Vl)) : M Vl := bd ms fun rs e => match cnts e rs with
  | some ds => match f ds with
    | some (.im d) => some (.im d, e)
    | some (.fr d) => some (.fr d, e)
    | _ => none
  | none => none
section
variable {K : PySem.W.Frag} {A : Anc}
theorem sx_prim {ta : TA} {ms : M (List Vl)} {r : List V → Hp → VK → Prop} {f : List D → Option Vl} (hp : PrS K r f) (ha : SAX K A ta ms) : SEX K A (tCB r ta) (eP f ms) := fun σ τ B H env pe env' res Q S hl e q => by
  unfold eP bd at e
  split at e
  · rename_i rs e1 he
    try dsimp only at e
    split at e
    · rename_i ds hc
      refine ha σ τ B H env pe e1 rs _ S hl he fun B1 H1 vs s1 hl1 S1 hr => ?_
      have rr := Hv.rrs S1 hl1 hr hc
      split at e
      · rename_i d hf
        cases e
        exact hp A B1 H1 (σ ++ τ) (env' ++ pe) vs ds _ Q S1 rr hf fun B2 H2 v s2 h2 => q B2 H2 v (s1.trans s2) hl1 h2
      · rename_i d hf
        cases e
        exact hp A B1 H1 (σ ++ τ) (env' ++ pe) vs ds _ Q S1 rr hf fun B2 H2 v s2 h2 => q B2 H2 v (s1.trans s2) hl1 h2
      · cases e
    · cases e
  · cases e
def on2 (r : R2) : List V → Hp → VK → Prop := fun xs H Q => match xs with
  | [x, y] => r x y H Q
  | _ => False
def on1 (r : V → Hp → VK → Prop) : List V → Hp → VK → Prop := fun xs H Q => match xs with
  | [x] => r x H Q
  | _ => False
theorem sx_op {ta tb : TE} {ma mb : M Vl} {r : R2} {f : List D → Option Vl} (hp : PrS K (on2 r) f) (ha : SEX K A ta ma) (hb : SEX K A tb mb) : SEX K A (tOp r ta tb) (eP f (cA ma (cA mb cN))) :=
  sx_prim hp (sa_cons ha (sa_cons hb sa_nil))
theorem sx_un {ta : TE} {ma : M Vl} {r : V → Hp → VK → Prop} {f : List D → Option Vl} (hp : PrS K (on1 r) f) (ha : SEX K A ta ma) : SEX K A (tUn r ta) (eP f (cA ma cN)) :=
  sx_prim hp (sa_cons ha sa_nil)

def eV (i : Nat) : M Vl := fun e => match e[i]? with
  | some (.im d) => some (.im d, e)
  | some (.ow _) => some (.bo i, e)
  | some (.io _ _) => some (.bo i, e)
  | _ => none
theorem sx_var {i : Nat} : SEX K A (tVar i) (eV i) := fun σ τ B H env pe env' r Q S hl e q => by
  unfold eV at e
  split at e
  · rename_i d he
    try dsimp only at e
    cases e
    have hi : i < σ.length := by
      rw [hl]
      exact (List.getElem?_eq_some_iff.mp he).1
    have hσ := List.getElem?_eq_getElem hi
    cases h : σ[i] with
    | none =>
      rw [h] at hσ
      cases S.at hl he hσ
    | some v =>
      rw [h] at hσ
      cases S.at hl he hσ with
      | im rr => exact ⟨v, hσ, q B H v (Same.refl _) hl ⟨S, rr⟩⟩
  · rename_i d he
    try dsimp only at e
    cases e
    have hi : i < σ.length := by
      rw [hl]
      exact (List.getElem?_eq_some_iff.mp he).1
    have hσ := List.getElem?_eq_getElem hi
    cases h : σ[i] with
    | none =>
      rw [h] at hσ
      cases S.at hl he hσ
    | some v =>
      rw [h] at hσ
      exact ⟨v, hσ, q B H v (Same.refl _) hl ⟨S, hσ⟩⟩
  · rename_i d he
    try dsimp only at e
    cases e
    have hi : i < σ.length := by
      rw [hl]
      exact (List.getElem?_eq_some_iff.mp he).1
    have hσ := List.getElem?_eq_getElem hi
    cases h : σ[i] with
    | none =>
      rw [h] at hσ
      cases S.at hl he hσ
    | some v =>
      rw [h] at hσ
      exact ⟨v, hσ, q B H v (Same.refl _) hl ⟨S, hσ⟩⟩
  · cases e
/-- a constant -/
def eC (d : D) : M Vl := rt (.im d)
theorem sx_con {v : V} {d : D} (h : ∀ B, Rp K B d v) : SEX K A (tC v) (eC d) := fun σ τ B H env pe env' r Q S hl e q => by
  cases e
  exact q B H v (Same.refl _) hl ⟨S, h B⟩
/-- a value that is a truth, as a test -/
def mB (m : M Vl) : M Bool := bd m fun r e => match r with
  | .im (.bl b) => some (b, e)
  | _ => none
theorem st_val {t : TE} {m : M Vl} (h : SEX K A t m) : STX K A (tB t) (mB m) := fun σ τ B H env pe env' b Q S hl e q => by
  unfold mB bd at e
  split at e
  · rename_i r e1 he
    try dsimp only at e
    split at e
    · rename_i b'
      cases e
      refine h σ τ B H env pe env' _ _ S hl he fun B1 H1 v s1 hl1 hv => ?_
      obtain ⟨S1, rr⟩ := hv
      cases rr
      exact ⟨b, rfl, q B1 H1 s1 hl1 S1⟩
    · cases e
  · cases e
def mNot (m : M Bool) : M Bool := bd m fun b => rt (!b)
theorem st_not {t : TT} {m : M Bool} (h : STX K A t m) : STX K A (tNot t) (mNot m) := fun σ τ B H env pe env' b Q S hl e q => by
  unfold mNot bd at e
  split at e
  · rename_i b' e1 he
    try dsimp only at e
    cases e
    exact h σ τ B H env pe env' _ _ S hl he q
  · cases e
def mAnd (m n : M Bool) : M Bool := bd m fun b => if b = true then n else rt false
def mOr (m n : M Bool) : M Bool := bd m fun b => if b = true then rt true else n
theorem st_and {t u : TT} {m n : M Bool} (h : STX K A t m) (h2 : STX K A u n) : STX K A (tAnd t u) (mAnd m n) := fun σ τ B H env pe env' b Q S hl e q => by
  unfold mAnd bd at e
  split at e
  · rename_i b' e1 he
    try dsimp only at e
    refine h σ τ B H env pe e1 b' _ S hl he fun B1 H1 s1 hl1 S1 => ?_
    cases b' with
    | true =>
      rw [if_pos rfl] at e ⊢
      exact h2 σ τ B1 H1 e1 pe env' b Q S1 hl1 e fun B2 H2 s2 => q B2 H2 (s1.trans s2)
    | false =>
      rw [if_neg Bool.false_ne_true] at e ⊢
      cases e
      exact q B1 H1 s1 hl1 S1
  · cases e
theorem st_or {t u : TT} {m n : M Bool} (h : STX K A t m) (h2 : STX K A u n) : STX K A (tOr t u) (mOr m n) := fun σ τ B H env pe env' b Q S hl e q => by
  unfold mOr bd at e
  split at e
  · rename_i b' e1 he
    try dsimp only at e
    refine h σ τ B H env pe e1 b' _ S hl he fun B1 H1 s1 hl1 S1 => ?_
    cases b' with
    | false =>
      rw [if_neg Bool.false_ne_true] at e ⊢
      exact h2 σ τ B1 H1 e1 pe env' b Q S1 hl1 e fun B2 H2 s2 => q B2 H2 (s1.trans s2)
    | true =>
      rw [if_pos rfl] at e ⊢
      cases e
      exact q B1 H1 s1 hl1 S1
  · cases e
/-- not, and, or as values of truths -/
def eNot (m : M Vl) : M Vl := bd (mB m) fun b => rt (.im (.bl (!b)))
def eAnd (m n : M Vl) : M Vl := bd (mB m) fun b => if b = true then n else rt (.im (.bl false))
def eOr (m n : M Vl) : M Vl := bd (mB m) fun b => if b = true then rt (.im (.bl true)) else n
theorem sx_and {t u : TE} {m n : M Vl} (h : SEX K A t m) (h2 : SEX K A u n) : SEX K A (tAndV t u) (eAnd m n) := fun σ τ B H env pe env' r Q S hl e q => by
  unfold eAnd bd at e
  split at e
  · rename_i b e1 he
    try dsimp only at e
    refine st_val h σ τ B H env pe e1 b (fun c H' => if c = true then u σ H' Q else Q (.bl false) H') S hl he fun B1 H1 s1 hl1 S1 => ?_
    cases b with
    | true =>
      rw [if_pos rfl] at e ⊢
      exact h2 σ τ B1 H1 e1 pe env' r Q S1 hl1 e fun B2 H2 v s2 => q B2 H2 v (s1.trans s2)
    | false =>
      rw [if_neg Bool.false_ne_true] at e ⊢
      cases e
      exact q B1 H1 _ s1 hl1 ⟨S1, .bl _⟩
  · cases e
def eIf (c : M Bool) (m n : M Vl) : M Vl := bd c fun b => if b = true then m else n
theorem sx_if {tc : TT} {t u : TE} {c : M Bool} {m n : M Vl} (hc : STX K A tc c) (h : SEX K A t m) (h2 : SEX K A u n) : SEX K A (tIf tc t u) (eIf c m n) := fun σ τ B H env pe env' r Q S hl e q => by
  unfold eIf bd at e
  split at e
  · rename_i b e1 he
    try dsimp only at e
    refine hc σ τ B H env pe e1 b _ S hl he fun B1 H1 s1 hl1 S1 => ?_
    cases b with
    | true =>
      rw [if_pos rfl] at e ⊢
      exact h σ τ B1 H1 e1 pe env' r Q S1 hl1 e fun B2 H2 v s2 => q B2 H2 v (s1.trans s2)
    | false =>
      rw [if_neg Bool.false_ne_true] at e ⊢
      exact h2 σ τ B1 H1 e1 pe env' r Q S1 hl1 e fun B2 H2 v s2 => q B2 H2 v (s1.trans s2)
  · cases e

/-- held values are frozen for good -/
theorem frz_ok {B H : Hp} {σ τ : L2.St} {env pe env' : Env} {r : Vl} {v : V} {d : D} (S : SR K A B H (σ ++ τ) (env ++ pe)) (hl : σ.length = env.length) (h : Hv K B σ r v) (e : frz r env = some (d, env')) :
    ∃ B', Same B B' ∧ SR K A B' H (σ ++ τ) (env' ++ pe) ∧ σ.length = env'.length ∧ Rp K B' d v := by
  cases r with
  | im d' =>
    cases e
    exact ⟨B, Same.refl _, S, hl, h⟩
  | fr d' => exact h.elim
  | bo i =>
    have h : σ[i]? = some (some v) := h
    unfold frz at e
    dsimp only at e
    split at e
    · rename_i d' he
      try dsimp only at e
      cases e
      cases S.at hl he h with
      | im rr => exact ⟨B, Same.refl _, S, hl, rr⟩
    · rename_i d' he
      try dsimp only at e
      cases e
      have hi := (List.getElem?_eq_some_iff.mp he).1
      have hj := (List.getElem?_eq_some_iff.mp h).1
      cases S.at hl he h with
      | ow b h0 c =>
        obtain ⟨o, ho, S1, hB, rr⟩ := S.freezeAt (i := i) (by rw [List.getElem?_append_left hi]; exact he) (by rw [List.getElem?_append_left hj]; exact h)
        rw [List.set_append_left _ _ hi] at S1
        exact ⟨_, hB, S1, by simpa using hl, rr⟩
    · cases e
theorem frzs_ok {σ τ : L2.St} {pe : Env} : ∀ {rs : List Vl} {vs : List V} {B H : Hp} {env env' : Env} {ds : List D}, SR K A B H (σ ++ τ) (env ++ pe) → σ.length = env.length → Paired (Hv K B σ) rs vs → frzs rs env = some (ds, env') →
    ∃ B', Same B B' ∧ SR K A B' H (σ ++ τ) (env' ++ pe) ∧ σ.length = env'.length ∧ Rps K B' ds vs
  | _, _, B, H, env, env', ds, S, hl, .nil, e => by
    cases e
    exact ⟨B, Same.refl _, S, hl, .nil⟩
  | r :: rs, v :: vs, B, H, env, env', ds, S, hl, .cons h t, e => by
    unfold frzs bd at e
    split at e
    · rename_i d e1 he
      try dsimp only at e
      split at e
      · rename_i ds' e2 hes
        try dsimp only at e
        cases e
        obtain ⟨B1, s1, S1, hl1, r1⟩ := frz_ok S hl h he
        obtain ⟨B2, s2, S2, hl2, r2⟩ := frzs_ok S1 hl1 (Paired.mapP t fun _ _ z => z.mono s1) hes
        exact ⟨B2, s1.trans s2, S2, hl2, .cons (r1.mono s2) r2⟩
      · cases e
    · cases e
def small (n : Nat) : Bool := decide (n ≤ sizeLine)
def eTup (ms : M (List Vl)) : M Vl := bd ms fun rs => bd (frzs rs) fun ds => if small ds.length = true then rt (.im (.tup ds)) else fun _ => none
def eLst (ms : M (List Vl)) : M Vl := bd ms fun rs => bd (frzs rs) fun ds => if small ds.length = true then rt (.fr (.lst ds)) else fun _ => none
theorem sx_tup {ta : TA} {ms : M (List Vl)} (ha : SAX K A ta ms) : SEX K A (tTup ta) (eTup ms) := fun σ τ B H env pe env' r Q S hl e q => by
  unfold eTup bd at e
  split at e
  · rename_i rs e1 he
    try dsimp only at e
    split at e
    · rename_i ds e2 hes
      try dsimp only at e
      split at e
      · rename_i hsm
        cases e
        refine ha σ τ B H env pe e1 rs _ S hl he fun B1 H1 vs s1 hl1 S1 hr => ?_
        obtain ⟨B2, s2, S2, hl2, r2⟩ := frzs_ok S1 hl1 hr hes
        refine ⟨by rw [← r2.length]; exact of_decide_eq_true hsm, fun p hp => ?_⟩
        obtain ⟨S3, s3⟩ := S2.laidF (o := .tup vs) hp
        exact q _ _ _ ((s1.trans s2).trans s3) hl2 ⟨S3, .tup upd_same (r2.mono s3)⟩
      · cases e
    · cases e
  · cases e
theorem sx_lst {ta : TA} {ms : M (List Vl)} (ha : SAX K A ta ms) : SEX K A (tLst ta) (eLst ms) := fun σ τ B H env pe env' r Q S hl e q => by
  unfold eLst bd at e
  split at e
  · rename_i rs e1 he
    try dsimp only at e
    split at e
    · rename_i ds e2 hes
      try dsimp only at e
      split at e
      · rename_i hsm
        cases e
        refine ha σ τ B H env pe e1 rs _ S hl he fun B1 H1 vs s1 hl1 S1 hr => ?_
        obtain ⟨B2, s2, S2, hl2, r2⟩ := frzs_ok S1 hl1 hr hes
        refine ⟨by rw [← r2.length]; exact of_decide_eq_true hsm, fun p hp => ?_⟩
        exact q B2 _ _ (s1.trans s2) hl2 (S2.push hp (.lst r2))
      · cases e
    · cases e
  · cases e
end
end PD
namespace PD
variable [PD.TabL]
open PySem PySem.Spec PyProof.Rows L2

theorem bd_inv {α β : Type} {m : M α} {f : α → M β} {e e' : Env} {b : β} (h : bd m f e = some (b, e')) : ∃ a e1, m e = some (a, e1) ∧ f a e1 = some (b, e') := by
  unfold bd at h
  split at h
  · rename_i a e1 he
    exact ⟨a, e1, he, h⟩
  · cases h

inductive Fl where
  | nx | bk | ct | rt (v : Vl)
abbrev SM := Env → Option (Fl × Env)
section
variable (K : PySem.W.Frag) (A : Anc)
def FP (B : Hp) (E : Ends) (env' : Env) : Fl → Prop
  | .nx => ∀ σ' B' H', Same B B' → SR K A B' H' σ' env' → E.nx σ' H'
  | .bk => ∀ σ' B' H', Same B B' → SR K A B' H' σ' env' → E.bk σ' H'
  | .ct => ∀ σ' B' H', Same B B' → SR K A B' H' σ' env' → E.ct σ' H'
  | .rt r => ∀ σ' B' H' v, Same B B' → σ'.length = env'.length → VR K A B' H' σ' [] env' [] r v → E.rt v H'
def SSX (t : TS) (m : SM) : Prop := ∀ (σ : L2.St) (B H : Hp) (env env' : Env) (fl : Fl) (E : Ends), SR K A B H σ env → m env = some (fl, env') → FP K A B E env' fl → t E σ H
/-- a target: ts the slots that it stores -/
def SGX (ts : List Nat) (t : TG) (m : Vl → M Unit) : Prop := ∀ (σ τ : L2.St) (B H : Hp) (env pe env' : Env) (r : Vl) (v : V) (Q : L2.St → Hp → Prop), VR K A B H σ τ env pe r v → σ.length = env.length → m r env = some ((), env') →
  (∀ σ' B' H', Same B B' → σ'.length = env'.length → (∀ vs : List Nat, (∀ i ∈ ts, i ∈ vs) → wipe σ' vs = wipe σ vs) → SR K A B' H' (σ' ++ τ) (env' ++ pe) → Q σ' H') → t v σ H Q
def SGsX (ts : List Nat) (t : TGs) (m : List D → M Unit) : Prop := ∀ (σ τ : L2.St) (B H : Hp) (env pe env' : Env) (ds : List D) (vs : List V) (Q : L2.St → Hp → Prop), SR K A B H (σ ++ τ) (env ++ pe) → Rps K B ds vs → σ.length = env.length → m ds env = some ((), env') →
  (∀ σ' B' H', Same B B' → σ'.length = env'.length → (∀ us : List Nat, (∀ i ∈ ts, i ∈ us) → wipe σ' us = wipe σ us) → SR K A B' H' (σ' ++ τ) (env' ++ pe) → Q σ' H') → t vs σ H Q
/-- what a loop walks gives these items, as long as the frozen part stands -/
structure WD (J : It) (B0 : Hp) (items : List D) : Prop where
  goes : ∀ i H B, i < items.length → Same B0 B → Same B H → J.go i H
  stops : ∀ H B, Same B0 B → Same B H → J.stop items.length H
  yields : ∀ i H B x H', i < items.length → Same B0 B → Same B H → J.yld i H x H' → ∃ d, items[i]? = some d ∧
    ((H' = H ∧ Rp K B d x) ∨ (∃ T xs ds, x = .ref T ∧ H T = none ∧ H' = upd H T (.tup xs) ∧ d = .tup ds ∧ Rps K B ds xs) ∨ ∃ T xs ds, x = .ref T ∧ H T = some (.tup xs) ∧ H' = H ∧ d = .tup ds ∧ Rps K B ds xs)
def SIX (t : TI) (m : M (List D)) : Prop := ∀ (σ τ : L2.St) (B H : Hp) (env pe env' : Env) (ds : List D) (R : It → Hp → Prop), SR K A B H (σ ++ τ) (env ++ pe) → σ.length = env.length → m env = some (ds, env') →
  (∀ B' H' J, Same B B' → σ.length = env'.length → SR K A B' H' (σ ++ τ) (env' ++ pe) → WD K J B' ds → R J H') → t σ H R
end
section
variable {K : PySem.W.Frag} {A : Anc} {B H : Hp} {σ τ : L2.St} {env pe : Env}

theorem SR.nil_app (S : SR K A B H σ env) : SR K A B H (σ ++ []) (env ++ []) := by
  rw [List.append_nil, List.append_nil]
  exact S
theorem SR.app_nil (S : SR K A B H (σ ++ []) (env ++ [])) : SR K A B H σ env := by
  rw [List.append_nil, List.append_nil] at S
  exact S
theorem FP.mono {B2 : Hp} {E : Ends} {env' : Env} {fl : Fl} (s : Same B B2) (h : FP K A B E env' fl) : FP K A B2 E env' fl := by
  cases fl with
  | nx => exact fun σ' B' H' s' => h σ' B' H' (s.trans s')
  | bk => exact fun σ' B' H' s' => h σ' B' H' (s.trans s')
  | ct => exact fun σ' B' H' s' => h σ' B' H' (s.trans s')
  | rt r => exact fun σ' B' H' v s' => h σ' B' H' v (s.trans s')

def sNil : SM := fun e => some (.nx, e)
def sSeq (m n : SM) : SM := fun e => match m e with
  | some (.nx, e') => n e'
  | some (fl, e') => some (fl, e')
  | none => none
theorem ss_nil : SSX K A tNext sNil := fun σ B H env env' fl E S e q => by
  cases e
  exact q σ B H (Same.refl _) S
theorem ss_seq {t u : TS} {m n : SM} (h : SSX K A t m) (h2 : SSX K A u n) : SSX K A (tSeq t u) (sSeq m n) := fun σ B H env env' fl E S e q => by
  unfold sSeq at e
  split at e
  · rename_i e1 he
    exact h σ B H env e1 .nx _ S he fun σ1 B1 H1 s1 S1 => h2 σ1 B1 H1 e1 env' fl E S1 e (q.mono s1)
  · rename_i f e1 hn he
    cases e
    refine h σ B H env env' fl _ S he ?_
    cases fl with
    | nx => exact (hn rfl).elim
    | bk => exact q
    | ct => exact q
    | rt r => exact q
  · cases e
def sPass : SM := fun e => some (.nx, e)
def sBrk : SM := fun e => some (.bk, e)
def sCnt : SM := fun e => some (.ct, e)
/-- a value is dropped -/
def sExp (m : M Vl) : SM := fun e => match m e with
  | some (_, e') => some (.nx, e')
  | none => none
theorem VR.drop {r : Vl} {v : V} (h : VR K A B H σ τ env pe r v) : SR K A B H (σ ++ τ) (env ++ pe) := by
  cases r with
  | im d => exact h.1
  | bo i => exact h.1
  | fr d =>
    have S : SR K A B H (σ ++ τ ++ [some v]) (env ++ pe ++ [.ow d]) := h
    refine S.front ?_
    have := S.len
    simp only [List.length_append, List.length_cons, List.length_nil] at this ⊢
    omega
theorem ss_exp {t : TE} {m : M Vl} (h : SEX K A t m) : SSX K A (tDrop t) (sExp m) := fun σ B H env env' fl E S e q => by
  unfold sExp at e
  split at e
  · rename_i r e1 he
    cases e
    exact h σ [] B H env [] _ r _ S.nil_app S.len he fun B1 H1 v s1 hl1 hv => q σ B1 H1 s1 hv.drop.app_nil
  · cases e
def sRet (m : M Vl) : SM := fun e => match m e with
  | some (r, e') => some (.rt r, e')
  | none => none
theorem ss_ret {t : TE} {m : M Vl} (h : SEX K A t m) : SSX K A (tRet t) (sRet m) := fun σ B H env env' fl E S e q => by
  unfold sRet at e
  split at e
  · rename_i r e1 he
    cases e
    exact h σ [] B H env [] _ r _ S.nil_app S.len he fun B1 H1 v s1 hl1 hv => q σ B1 H1 v s1 hl1 hv
  · cases e
def sRetN : SM := fun e => some (.rt (.im .non), e)
def sIf (c : M Bool) (m n : SM) : SM := fun e => match c e with
  | some (b, e') => if b = true then m e' else n e'
  | none => none
theorem ss_if {tc : TT} {t u : TS} {c : M Bool} {m n : SM} (hc : STX K A tc c) (h : SSX K A t m) (h2 : SSX K A u n) : SSX K A (tIfS tc t u) (sIf c m n) := fun σ B H env env' fl E S e q => by
  unfold sIf at e
  split at e
  · rename_i b e1 he
    refine hc σ [] B H env [] e1 b _ S.nil_app S.len he fun B1 H1 s1 hl1 S1 => ?_
    cases b with
    | true =>
      rw [if_pos rfl] at e ⊢
      exact h σ B1 H1 e1 env' fl E S1.app_nil e (q.mono s1)
    | false =>
      rw [if_neg Bool.false_ne_true] at e ⊢
      exact h2 σ B1 H1 e1 env' fl E S1.app_nil e (q.mono s1)
  · cases e

theorem wipe_set {i : Nat} {x : Option V} : ∀ {vs : List Nat} {σ : L2.St}, i ∈ vs → wipe (σ.set i x) vs = wipe σ vs
  | [], _, h => by cases h
  | v :: vs, σ, h => by
    show (wipe (σ.set i x) vs).set v none = (wipe σ vs).set v none
    by_cases hv : i ∈ vs
    · rw [wipe_set hv]
    · have e : i = v := by
        rcases List.mem_cons.mp h with e | e
        · exact e
        · exact absurd e hv
      subst e
      have c : ∀ (us : List Nat) (ρ : L2.St), wipe (ρ.set i x) us = if i ∈ us then wipe ρ us else (wipe ρ us).set i x := by
        intro us
        induction us with
        | nil => intro ρ; rw [if_neg (by simp)]; rfl
        | cons u us ih =>
          intro ρ
          show (wipe (ρ.set i x) us).set u none = _
          rw [ih ρ]
          by_cases h1 : i ∈ us
          · rw [if_pos h1, if_pos (List.mem_cons_of_mem _ h1)]
            rfl
          · rw [if_neg h1]
            by_cases h2 : i = u
            · subst h2
              rw [if_pos List.mem_cons_self, List.set_set]
              rfl
            · rw [if_neg (by simp [h1, h2])]
              show ((wipe ρ us).set i x).set u none = ((wipe ρ us).set u none).set i x
              exact List.set_comm _ _ h2
      rw [c vs σ, if_neg hv, List.set_set]
/-- a name -/
def gN (i : Nat) : Vl → M Unit := fun r env => if i < env.length then match r with
    | .im d => some ((), env.set i (.im d))
    | .fr d => some ((), env.set i (.ow d))
    | .bo j => match frz (.bo j) env with
      | some (d, e1) => some ((), e1.set i (.im d))
      | none => none
  else none
theorem getE_snoc {α : Type} {l : List α} {x y : α} {i : Nat} (h : (l ++ [x])[i]? = some y) : (i < l.length ∧ l[i]? = some y) ∨ (i = l.length ∧ y = x) := by
  by_cases hi : i < l.length
  · rw [List.getElem?_append_left hi] at h
    exact .inl ⟨hi, h⟩
  · rw [List.getElem?_append_right (by omega)] at h
    have h1 : i - l.length < [x].length := (List.getElem?_eq_some_iff.mp h).1
    have h3 : i - l.length = 0 := by simpa using h1
    rw [h3] at h
    exact .inr ⟨by omega, (Option.some.inj h).symm⟩
/-- the last slot is moved to place i -/
theorem SR.move {i : Nat} {ov : Option V} {sl : Sl} (S : SR K A B H (σ ++ [ov]) (env ++ [sl])) (hl : σ.length = env.length) (hi : i < env.length) : SR K A B H (σ.set i ov) (env.set i sl) := by
  refine S.sub (by simp [hl]) (fun j => if j = i then env.length else j) (fun a b s1 s2 e1 e2 _ _ h => ?_) (fun j s e _ => ?_)
  · have ha : a < env.length := by simpa using (List.getElem?_eq_some_iff.mp e1).1
    have hb : b < env.length := by simpa using (List.getElem?_eq_some_iff.mp e2).1
    split at h <;> split at h <;> omega
  · have hj : j < env.length := by simpa using (List.getElem?_eq_some_iff.mp e).1
    split
    · rename_i q
      subst q
      rw [List.getElem?_set_self hi] at e
      cases e
      refine ⟨by simp, ?_⟩
      rw [List.getElem?_set_self (by rw [hl]; exact hi), ← hl]
      simp
    · rename_i q
      rw [List.getElem?_set_ne (fun z => q z.symm)] at e ⊢
      refine ⟨by rw [List.getElem?_append_left hj]; exact e, ?_⟩
      rw [List.getElem?_append_left (by rw [hl]; exact hj)]
theorem sg_name {i : Nat} : SGX K A [i] (gName i) (gN i) := fun σ τ B H env pe env' r v Q hv hl e q => by
  unfold gN at e
  split at e
  · rename_i hi
    have hiσ : i < σ.length := by rw [hl]; exact hi
    have wp : ∀ vs : List Nat, (∀ j ∈ [i], j ∈ vs) → wipe (σ.set i (some v)) vs = wipe σ vs := fun vs h => wipe_set (h i (by simp))
    cases r with
    | im d =>
      cases e
      obtain ⟨S, rr⟩ := hv
      refine q _ B H (Same.refl _) (by simp [hl]) wp ?_
      have := S.setIm (i := i) rr
      rw [List.set_append_left _ _ hiσ, List.set_append_left _ _ hi] at this
      exact this
    | fr d =>
      cases e
      have S : SR K A B H (σ ++ τ ++ [some v]) (env ++ pe ++ [.ow d]) := hv
      have hl2 : (σ ++ τ).length = (env ++ pe).length := by
        have := S.len
        simp only [List.length_append, List.length_cons, List.length_nil] at this ⊢
        omega
      refine q _ B H (Same.refl _) (by simp [hl]) wp ?_
      have := S.move (i := i) hl2 (by simp only [List.length_append]; omega)
      rw [List.set_append_left _ _ hiσ, List.set_append_left _ _ hi] at this
      exact this
    | bo j =>
      dsimp only at e
      split at e
      · rename_i d e1 he
        cases e
        obtain ⟨S, hj⟩ := hv
        obtain ⟨B1, s1, S1, hl1, rr⟩ := frz_ok (r := .bo j) S hl hj he
        refine q _ B1 H s1 (by simp [hl1]) wp ?_
        have := S1.setIm (i := i) rr
        rw [List.set_append_left _ _ hiσ, List.set_append_left _ _ (by rw [← hl1]; exact hiσ)] at this
        exact this
      · cases e
  · cases e
def gsN : List D → M Unit := fun ds e => match ds with
  | [] => some ((), e)
  | _ => none
def gsC (g : Vl → M Unit) (gs : List D → M Unit) : List D → M Unit := fun ds e => match ds with
  | d :: r => match g (.im d) e with
    | some (_, e1) => gs r e1
    | none => none
  | [] => none
theorem sgs_nil : SGsX K A [] gNil gsN := fun σ τ B H env pe env' ds vs Q S rr hl e q => by
  unfold gsN at e
  split at e
  · cases e
    cases rr
    exact ⟨rfl, q σ B H (Same.refl _) hl (fun _ _ => rfl) S⟩
  · cases e
theorem sgs_cons {ts us : List Nat} {t : TG} {u : TGs} {g : Vl → M Unit} {gs : List D → M Unit} (h : SGX K A ts t g) (h2 : SGsX K A us u gs) : SGsX K A (ts ++ us) (gCons t u) (gsC g gs) := fun σ τ B H env pe env' ds vs Q S rr hl e q => by
  unfold gsC at e
  split at e
  · rename_i d r
    split at e
    · rename_i e1 he
      cases rr with
      | @cons _ v _ vr r1 r2 =>
        refine ⟨v, vr, rfl, h σ τ B H env pe e1 (.im d) v _ ⟨S, r1⟩ hl he fun σ1 B1 H1 s1 hl1 w1 S1 => ?_⟩
        refine h2 σ1 τ B1 H1 e1 pe env' r vr Q S1 (r2.mono s1) hl1 e fun σ2 B2 H2 s2 hl2 w2 S2 => ?_
        refine q σ2 B2 H2 (s1.trans s2) hl2 (fun ws hw => ?_) S2
        rw [w2 ws fun i hi => hw i (List.mem_append_right _ hi), w1 ws fun i hi => hw i (List.mem_append_left _ hi)]
    · cases e
  · cases e
/-- (a, b, ..) of a tuple -/
def gT (n : Nat) (gs : List D → M Unit) : Vl → M Unit := fun r e => match r with
  | .im (.tup ds) => if ds.length = n then gs ds e else none
  | _ => none
theorem sg_tup {ts : List Nat} {t : TGs} {gs : List D → M Unit} {n : Nat} (h : SGsX K A ts t gs) : SGX K A ts (gTup K n t) (gT n gs) := fun σ τ B H env pe env' r v Q hv hl e q => by
  unfold gT at e
  split at e
  · rename_i ds
    split at e
    · rename_i hn
      obtain ⟨S, rr⟩ := hv
      cases rr with
      | @tup a xs _ hs r2 =>
        exact ⟨a, xs, rfl, (hs.same S.same).sq, by rw [← r2.length]; exact hn, h σ τ B H env pe env' ds xs Q S r2 hl e q⟩
    · cases e
  · cases e
def sAsg (m : M Vl) (g : Vl → M Unit) : SM := fun e => match m e with
  | some (r, e1) => match g r e1 with
    | some (_, e2) => some (.nx, e2)
    | none => none
  | none => none
theorem ss_asg {ts : List Nat} {t : TE} {u : TG} {m : M Vl} {g : Vl → M Unit} (h : SEX K A t m) (h2 : SGX K A ts u g) : SSX K A (tAsg t u) (sAsg m g) := fun σ B H env env' fl E S e q => by
  unfold sAsg at e
  split at e
  · rename_i r e1 he
    split at e
    · rename_i e2 hg
      cases e
      refine h σ [] B H env [] e1 r _ S.nil_app S.len he fun B1 H1 v s1 hl1 hv => ?_
      exact h2 σ [] B1 H1 e1 [] _ r v _ hv hl1 hg fun σ2 B2 H2 s2 hl2 _ S2 => q σ2 B2 H2 (s1.trans s2) S2.app_nil
    · cases e
  · cases e

theorem WD.yield {J : It} {B0 : Hp} {items : List D} (w : WD K J B0 items) {i : Nat} {x : V} {H' : Hp} {d : D} (hi : items[i]? = some d) (s : Same B0 B) (S : SR K A B H σ env) (y : J.yld i H x H') :
    ∃ B', Same B B' ∧ SR K A B' H' σ env ∧ Rp K B' d x := by
  obtain ⟨d', hd, h⟩ := w.yields i H B x H' (List.getElem?_eq_some_iff.mp hi).1 s S.same y
  rw [hi] at hd
  cases hd
  rcases h with ⟨rfl, r⟩ | ⟨T, xs, ds, rfl, nT, rfl, rfl, r⟩ | ⟨T, xs, ds, rfl, hT, rfl, rfl, r⟩
  · exact ⟨B, Same.refl _, S, r⟩
  · obtain ⟨S1, s1⟩ := S.laidF (o := .tup xs) nT
    exact ⟨_, s1, S1, .tup upd_same (r.mono s1)⟩
  · obtain ⟨B', s1, S1, e1⟩ := S.freezeT hT
    exact ⟨B', s1, S1, .tup e1 (r.mono s1)⟩
def forL (g : Vl → M Unit) (b : SM) : List D → SM
  | [], e => some (.nx, e)
  | d :: ds, e => match g (.im d) e with
    | none => none
    | some (_, e1) => match b e1 with
      | some (.nx, e2) => forL g b ds e2
      | some (.ct, e2) => forL g b ds e2
      | some (.bk, e2) => some (.nx, e2)
      | some (.rt v, e2) => some (.rt v, e2)
      | none => none
def sFor (mi : M (List D)) (g : Vl → M Unit) (b : SM) : SM := fun e => match mi e with
  | some (ds, e1) => forL g b ds e1
  | none => none
theorem ss_for {ts : List Nat} {wi : TI} {t : TG} {tb : TS} {mi : M (List D)} {g : Vl → M Unit} {b : SM} (hi : SIX K A wi mi) (hg : SGX K A ts t g) (hb : SSX K A tb b) : SSX K A (tFor wi t tb) (sFor mi g b) := fun σ B H env env' fl E S e q => by
  unfold sFor at e
  split at e
  · rename_i ds e1 he
    refine hi σ [] B H env [] e1 ds _ S.nil_app S.len he fun B1 H1 J s1 hl1 S1 w => ?_
    refine ⟨fun i m σ' H' => m = ds.length - i ∧ i ≤ ds.length ∧ ∃ B' en, Same B1 B' ∧ SR K A B' H' σ' en ∧ forL g b (ds.drop i) en = some (fl, env'),
      ⟨ds.length, by omega, by omega, B1, e1, Same.refl _, S1.app_nil, by simpa using e⟩, ?_⟩
    rintro i m σ' H' ⟨rfl, hi, B2, en, s2, S2, ef⟩
    by_cases hlt : i < ds.length
    · have hd : ds.drop i = ds[i] :: ds.drop (i + 1) := List.drop_eq_getElem_cons hlt
      rw [hd] at ef
      unfold forL at ef
      split at ef
      · cases ef
      · rename_i e2 hge
        refine .inr ⟨w.goes i H' B2 hlt s2 S2.same, fun σ3 H3 => i + 1 ≤ ds.length ∧ ∃ B' en, Same B1 B' ∧ SR K A B' H3 σ3 en ∧ forL g b (ds.drop (i + 1)) en = some (fl, env'),
          fun σ3 H3 h => ⟨ds.length - (i + 1), by omega, rfl, h⟩, fun x H3 y => ?_⟩
        obtain ⟨B3, s3, S3, r3⟩ := w.yield (List.getElem?_eq_getElem hlt) s2 S2 y
        refine hg σ' [] B3 H3 en [] e2 (.im ds[i]) x _ ⟨S3.nil_app, r3⟩ S2.len hge fun σ4 B4 H4 s4 hl4 _ S4 => ?_
        have S4 := S4.app_nil
        have s14 : Same B1 B4 := (s2.trans s3).trans s4
        split at ef
        · rename_i e3 hbe
          exact hb σ4 B4 H4 e2 e3 .nx _ S4 hbe fun σ5 B5 H5 s5 S5 => ⟨by omega, B5, e3, s14.trans s5, S5, ef⟩
        · rename_i e3 hbe
          exact hb σ4 B4 H4 e2 e3 .ct _ S4 hbe fun σ5 B5 H5 s5 S5 => ⟨by omega, B5, e3, s14.trans s5, S5, ef⟩
        · rename_i e3 hbe
          cases ef
          exact hb σ4 B4 H4 e2 _ .bk _ S4 hbe fun σ5 B5 H5 s5 S5 => q σ5 B5 H5 (s1.trans (s14.trans s5)) S5
        · rename_i v e3 hbe
          cases ef
          exact hb σ4 B4 H4 e2 _ (.rt v) _ S4 hbe fun σ5 B5 H5 v s5 => q σ5 B5 H5 v (s1.trans (s14.trans s5))
        · cases ef
    · have ei : i = ds.length := by omega
      subst ei
      rw [List.drop_length] at ef
      cases ef
      exact .inl ⟨w.stops H' B2 s2 S2.same, q σ' B2 H' (s1.trans s2) S2⟩
  · cases e
/-- while, n turns at most -/
def whlL (c : M Bool) (b : SM) : Nat → SM
  | 0, _ => none
  | n + 1, e => match c e with
    | none => none
    | some (false, e1) => some (.nx, e1)
    | some (true, e1) => match b e1 with
      | some (.nx, e2) => whlL c b n e2
      | some (.ct, e2) => whlL c b n e2
      | some (.bk, e2) => some (.nx, e2)
      | some (.rt v, e2) => some (.rt v, e2)
      | none => none
def sWhl (n : Nat) (c : M Bool) (b : SM) : SM := whlL c b n
def wipeE (e : Env) : List Nat → Env
  | [] => e
  | v :: vs => (wipeE e vs).set v .em
theorem wipeE_length (e : Env) : ∀ vs : List Nat, (wipeE e vs).length = e.length
  | [] => rfl
  | v :: vs => by
    show ((wipeE e vs).set v .em).length = _
    rw [List.length_set, wipeE_length e vs]
theorem SR.wipe (S : SR K A B H (σ ++ τ) (env ++ pe)) (hl : σ.length = env.length) : ∀ vs : List Nat, SR K A B H (L2.wipe σ vs ++ τ) (wipeE env vs ++ pe)
  | [] => S
  | v :: vs => by
    have S1 := SR.wipe S hl vs
    show SR K A B H ((L2.wipe σ vs).set v none ++ τ) ((wipeE env vs).set v .em ++ pe)
    by_cases hv : v < σ.length
    · have := S1.setEm (i := v) (ov := none)
      rw [List.set_append_left _ _ (by rw [wipe_length]; exact hv), List.set_append_left _ _ (by rw [wipeE_length, ← hl]; exact hv)] at this
      exact this
    · rw [List.set_eq_of_length_le (by rw [wipe_length]; omega), List.set_eq_of_length_le (by rw [wipeE_length, ← hl]; omega)]
      exact S1
def calmS : Option Sl → Bool
  | some (.ow _) => false
  | some (.io _ _) => false
  | _ => true
/-- the slots of the block's own names as they were ahead -/
def unwipe (e0 e : Env) : List Nat → Env
  | [] => e
  | v :: vs => match e0[v]? with
    | some sl => (unwipe e0 e vs).set v sl
    | none => unwipe e0 e vs
def compL (vs : List Nat) (g : Vl → M Unit) (tt : M Bool) (te : M Vl) : List D → M (List D)
  | [], e => some ([], e)
  | d :: ds, e => match g (.im d) e with
    | none => none
    | some (_, e1) => match tt e1 with
      | none => none
      | some (false, e2) => compL vs g tt te ds (wipeE e2 vs)
      | some (true, e2) => match te e2 with
        | none => none
        | some (r, e3) => match frz r.hold e3 with
          | none => none
          | some (y, e4) => match compL vs g tt te ds (wipeE e4 vs) with
            | none => none
            | some (ys, e5) => some (y :: ys, e5)
def eComp (vs : List Nat) (mi : M (List D)) (g : Vl → M Unit) (tt : M Bool) (te : M Vl) : M Vl := fun e => match mi e with
  | none => none
  | some (ds, e1) => if (vs.all fun v => calmS e1[v]?) = true then match compL vs g tt te ds (wipeE e1 vs) with
      | none => none
      | some (ys, e2) => if small ys.length = true then some (.fr (.lst ys), unwipe e1 e2 vs) else none
    else none
/-- behind the block: the own names' slots are as they were -/
theorem SR.unwiped {e1 : Env} : ∀ {vs : List Nat} {B : Hp} {e2 : Env}, vs.Nodup → SR K A B H (L2.wipe σ vs ++ τ) (e2 ++ pe) → e2.length = σ.length → (∀ v ∈ vs, ∀ sl ov, e1[v]? = some sl → σ[v]? = some ov → SlOk K A B H sl ov) → (∀ v ∈ vs, calmS e1[v]? = true) → e1.length = σ.length →
    SR K A B H (σ ++ τ) (unwipe e1 e2 vs ++ pe) ∧ (unwipe e1 e2 vs).length = σ.length := by
  intro vs
  induction vs generalizing σ with
  | nil => exact fun _ S h _ _ _ => ⟨S, h⟩
  | cons v vs ih =>
    intro B e2 nd S h hs hc h1
    obtain ⟨nd1, nd2⟩ := List.nodup_cons.mp nd
    have hu : (unwipe e1 e2 (v :: vs)) = match e1[v]? with
      | some sl => (unwipe e1 e2 vs).set v sl
      | none => unwipe e1 e2 vs := rfl
    -- σ with v forgotten
    have ew : L2.wipe σ (v :: vs) = L2.wipe (σ.set v none) vs := by
      show (L2.wipe σ vs).set v none = L2.wipe (σ.set v none) vs
      have c : ∀ (us : List Nat), L2.wipe (σ.set v none) us = (L2.wipe σ us).set v none := by
        intro us
        induction us with
        | nil => rfl
        | cons u us ih2 =>
          show (L2.wipe (σ.set v none) us).set u none = ((L2.wipe σ us).set u none).set v none
          rw [ih2]
          by_cases q : v = u
          · subst q; rfl
          · exact List.set_comm _ _ q
      exact (c vs).symm
    rw [ew] at S
    by_cases hv : v < σ.length
    · obtain ⟨sl, hsl⟩ : ∃ sl, e1[v]? = some sl := ⟨_, List.getElem?_eq_getElem (by omega)⟩
      obtain ⟨ov, hov⟩ : ∃ ov, σ[v]? = some ov := ⟨_, List.getElem?_eq_getElem hv⟩
      -- v itself is calm: em or im
      have ok := hs v List.mem_cons_self sl ov hsl hov
      have cl := hc v List.mem_cons_self
      rw [hsl] at cl
      have IH := ih (σ := σ.set v none) (B := B) (e2 := e2) nd2 S (by simpa using h) (fun u hu sl' ov' g1 g2 => ?_) (fun u hu => hc u (List.mem_cons_of_mem _ hu)) (by simpa using h1)
      · obtain ⟨S1, hl1⟩ := IH
        rw [hu, hsl]
        dsimp only
        have hl1 : (unwipe e1 e2 vs).length = σ.length := by simpa using hl1
        have key : ∀ x, (σ.set v x).set v ov = σ := fun x => by
          rw [List.set_set]
          exact list_set_self hov
        refine ⟨?_, by simpa using hl1⟩
        cases ok with
        | em =>
          have := S1.setEm (i := v) (ov := ov)
          rw [List.set_append_left _ _ (by simpa using hv), List.set_append_left _ _ (by omega), key] at this
          exact this
        | im rr =>
          rename_i d v'
          have := S1.setIm (i := v) rr
          rw [List.set_append_left _ _ (by simpa using hv), List.set_append_left _ _ (by omega), key] at this
          exact this
        | ow _ _ _ => cases cl
        | io _ _ => cases cl
      · by_cases q : u = v
        · exact absurd (q ▸ hu) nd1
        · rw [List.getElem?_set_ne (fun z => q z.symm)] at g2
          exact hs u (List.mem_cons_of_mem _ hu) sl' ov' g1 g2
    · have hn : e1[v]? = none := List.getElem?_eq_none (by omega)
      have es : σ.set v none = σ := List.set_eq_of_length_le (by omega)
      rw [es] at S
      rw [hu, hn]
      exact ih nd2 S h (fun u hu => hs u (List.mem_cons_of_mem _ hu)) (fun u hu => hc u (List.mem_cons_of_mem _ hu)) h1
theorem wipe_wipe : ∀ (vs us : List Nat) (ρ : L2.St), (∀ v ∈ us, v ∈ vs) → L2.wipe (L2.wipe ρ us) vs = L2.wipe ρ vs
  | vs, [], ρ, _ => rfl
  | vs, u :: us, ρ, h => by
    show L2.wipe ((L2.wipe ρ us).set u none) vs = _
    rw [wipe_set (h u List.mem_cons_self)]
    exact wipe_wipe vs us ρ fun v hv => h v (List.mem_cons_of_mem _ hv)
theorem sx_comp {ts vs : List Nat} {wi : TI} {t : TG} {tt : TT} {te : TE} {mi : M (List D)} {g : Vl → M Unit} {mt : M Bool} {me : M Vl} (nd : vs.Nodup) (ht : ∀ i ∈ ts, i ∈ vs) (hi : SIX K A wi mi) (hg : SGX K A ts t g) (hc : STX K A tt mt) (he : SEX K A te me) :
    SEX K A (tLc wi t tt te vs) (eComp vs mi g mt me) := fun σ τ B H env pe env' r Q S hl e q => by
  unfold eComp at e
  split at e
  · cases e
  · rename_i ds e1 hie
    split at e
    · rename_i hcalm
      split at e
      · cases e
      · rename_i ys e2 hcl
        split at e
        · rename_i hsm
          cases e
          have hsz : ys.length ≤ sizeLine := of_decide_eq_true hsm
          refine hi σ τ B H env pe e1 ds _ S hl hie fun B1 H1 J s1 hl1 S1 w D hD => ?_
          have S2 : SR K A B1 (upd H1 D (.lst [])) (L2.wipe σ vs ++ τ ++ [some (.ref D)]) (wipeE e1 vs ++ pe ++ [.ow (.lst [])]) := (S1.wipe hl1 vs).push hD (.lst .nil)
          refine ⟨fun i m H' => m = ds.length - i ∧ i ≤ ds.length ∧ ∃ B' en acc rest, Same B1 B' ∧ SR K A B' H' (L2.wipe σ vs ++ (τ ++ [some (.ref D)])) (en ++ (pe ++ [.ow (.lst acc)])) ∧ σ.length = en.length ∧ compL vs g mt me (ds.drop i) en = some (rest, e2) ∧ acc ++ rest = ys,
            ⟨ds.length, by omega, by omega, B1, wipeE e1 vs, [], ys, Same.refl _, by simpa [List.append_assoc] using S2, by rw [wipeE_length]; exact hl1, by simpa using hcl, rfl⟩, ?_⟩
          rintro i m H' ⟨rfl, hi', B3, en, acc, rest, s3, S3, hl3, ec, ey⟩
          by_cases hlt : i < ds.length
          · have hd : ds.drop i = ds[i] :: ds.drop (i + 1) := List.drop_eq_getElem_cons hlt
            rw [hd] at ec
            unfold compL at ec
            split at ec
            · cases ec
            · rename_i e3 hge
              refine .inr ⟨w.goes i H' B3 hlt s3 S3.same, fun H3 => i + 1 ≤ ds.length ∧ ∃ B' en acc rest, Same B1 B' ∧ SR K A B' H3 (L2.wipe σ vs ++ (τ ++ [some (.ref D)])) (en ++ (pe ++ [.ow (.lst acc)])) ∧ σ.length = en.length ∧ compL vs g mt me (ds.drop (i + 1)) en = some (rest, e2) ∧ acc ++ rest = ys,
                fun H3 h => ⟨ds.length - (i + 1), by omega, rfl, h⟩, fun x H3 y => ?_⟩
              obtain ⟨B4, s4, S4, r4⟩ := w.yield (List.getElem?_eq_getElem hlt) s3 S3 y
              refine hg (L2.wipe σ vs) (τ ++ [some (.ref D)]) B4 H3 en (pe ++ [.ow (.lst acc)]) e3 (.im ds[i]) x _ ⟨S4, r4⟩ (by rw [wipe_length]; exact hl3) hge fun σ5 B5 H5 s5 hl5 w5 S5 => ?_
              have wv : L2.wipe σ5 vs = L2.wipe σ vs := by
                rw [w5 vs ht, wipe_wipe vs vs σ fun _ h => h]
              have l5 : σ5.length = σ.length := by
                have := congrArg List.length wv
                rwa [wipe_length, wipe_length] at this
              refine ⟨wv, ?_⟩
              have s35 : Same B1 B5 := (s3.trans s4).trans s5
              split at ec
              · cases ec
              · rename_i e4 hte
                refine hc σ5 (τ ++ [some (.ref D)]) B5 H5 e3 (pe ++ [.ow (.lst acc)]) e4 false _ S5 hl5 hte fun B6 H6 s6 hl6 S6 => ?_
                rw [if_neg Bool.false_ne_true]
                have S7 := S6.wipe hl6 vs
                rw [wv] at S7
                exact ⟨by omega, B6, wipeE e4 vs, acc, rest, s35.trans s6, S7, by rw [wipeE_length]; omega, ec, ey⟩
              · rename_i e4 hte
                refine hc σ5 (τ ++ [some (.ref D)]) B5 H5 e3 (pe ++ [.ow (.lst acc)]) e4 true _ S5 hl5 hte fun B6 H6 s6 hl6 S6 => ?_
                rw [if_pos rfl]
                split at ec
                · cases ec
                · rename_i r e5 hee
                  split at ec
                  · cases ec
                  · rename_i yd e6 hfe
                    split at ec
                    · cases ec
                    · rename_i ys' e7 hcl2
                      cases ec
                      refine he σ5 (τ ++ [some (.ref D)]) B6 H6 e4 (pe ++ [.ow (.lst acc)]) e5 r _ S6 hl6 hee fun B7 H7 v s7 hl7 hv => ?_
                      obtain ⟨B8, s8, S8, hh⟩ := hv.held
                      obtain ⟨B9, s9, S9, hl9, r9⟩ := frz_ok S8 hl7 hh hfe
                      have S10 := S9.wipe hl9 vs
                      rw [wv] at S10
                      -- the list at D grows
                      have ln : (L2.wipe σ vs ++ τ).length = (wipeE e6 vs ++ pe).length := by
                        have := S10.len
                        simp only [List.length_append, List.length_cons, List.length_nil] at this ⊢
                        omega
                      have g1 : (wipeE e6 vs ++ (pe ++ [Sl.ow (.lst acc)]))[(wipeE e6 vs ++ pe).length]? = some (.ow (.lst acc)) := by
                        rw [← List.append_assoc]
                        simp
                      have g2 : (L2.wipe σ vs ++ (τ ++ [some (V.ref D)]))[(wipeE e6 vs ++ pe).length]? = some (some (.ref D)) := by
                        rw [← List.append_assoc, ← ln]
                        simp
                      cases S10.slot _ _ _ g1 g2 with
                      | ow b0 h0 c0 =>
                        generalize ho : H7 D = o at c0
                        cases c0 with
                        | @lst accV _ ra =>
                          have la : acc.length < ys.length := by
                            rw [← ey, List.length_append, List.length_cons]
                            omega
                          refine ⟨accV, rfl, by rw [← ra.length]; omega, by omega, B9, wipeE e6 vs, acc ++ [yd], ys', (((s35.trans s6).trans s7).trans s8).trans s9, ?_, by rw [wipeE_length]; omega, hcl2, by rw [← ey]; simp⟩
                          have W := S10.write (sl' := .ow (.lst (acc ++ [yd]))) (o := .lst (accV ++ [v])) g1 (.inl ⟨rfl, rfl⟩) g2 (.lst (Rps.app ra (.one r9)))
                          have es : (wipeE e6 vs ++ (pe ++ [Sl.ow (.lst acc)])).set (wipeE e6 vs ++ pe).length (.ow (.lst (acc ++ [yd]))) = wipeE e6 vs ++ (pe ++ [.ow (.lst (acc ++ [yd]))]) := by
                            rw [← List.append_assoc, ← List.append_assoc]
                            simp
                          rw [es] at W
                          exact W
          · have ei : i = ds.length := by omega
            subst ei
            rw [List.drop_length] at ec
            cases ec
            refine .inl ⟨w.stops H' B3 s3 S3.same, ?_⟩
            have ea : acc = ys := by simpa using ey
            subst ea
            have U := SR.unwiped (σ := σ) (vs := vs) (e1 := e1) nd S3 hl3.symm (fun v hv sl ov g1 g2 => ?_) (fun v hv => (List.all_eq_true.mp hcalm) v hv) hl1.symm
            · obtain ⟨U1, U2⟩ := U
              refine q B3 H' (.ref D) (s1.trans s3) U2.symm ?_
              show SR K A B3 H' (σ ++ τ ++ [some (.ref D)]) (unwipe e1 e2 vs ++ pe ++ [.ow (.lst acc)])
              rw [List.append_assoc, List.append_assoc]
              exact U1
            · have ok := S1.at hl1 g1 g2
              have cl := (List.all_eq_true.mp hcalm) v hv
              rw [g1] at cl
              cases ok with
              | em => exact .em
              | im rr => exact .im (rr.mono s3)
              | ow _ _ _ => cases cl
              | io _ _ => cases cl
        · cases e
    · cases e
end
end PD
namespace PD
variable [PD.TabL]
open PySem PySem.Spec PyProof.Rows L2

mutual
def D.nm : D → Bool
  | .non => true
  | .bl _ => true
  | .int _ => true
  | .str _ => true
  | .tup ds => nms ds
  | .lst _ => false
  | .dk _ => false
  | .dt _ => false
  | .sc _ => false
  | .fe => false
  | .ty _ => true
  | .txt _ => true
  | .tp ds => nms ds
  | .kf _ => false
  | .tf _ => false
  | .ex _ _ _ => false
  | .cl _ => false
def nms : List D → Bool
  | [] => true
  | d :: ds => d.nm && nms ds
end
/-- a container's items are such -/
def D.nmC : D → Bool
  | .lst ds => nms ds
  | .dk es => nms (es.map (·.2))
  | .dt es => nms (es.map (·.2))
  | _ => false
def Vl.nm : Vl → Bool
  | .im d => d.nm
  | .fr d => d.nmC
  | .bo _ => false
section
variable {K : PySem.W.Frag} {B B2 : Hp}
mutual
theorem Rp.thaw (hB : ∀ a o, TuO o → B a = some o → B2 a = some o) : ∀ {d : D} {v : V}, d.nm = true → Rp K B d v → Rp K B2 d v
  | _, _, _, .non => .non
  | _, _, _, .bl b => .bl b
  | _, _, _, .int i => .int i
  | _, _, _, .str x h => .str x h
  | _, _, _, .ty n => .ty n
  | _, _, _, .txt x => .txt x
  | _, _, n, .tup h r => .tup (hB _ _ True.intro h) (Rps.thaw hB (by simpa [D.nm] using n) r)
  | _, _, n, .tp h d r => .tp (hB _ _ True.intro h) d (Rps.thaw hB (by simpa [D.nm] using n) r)
  | _, _, n, .lst h r => by simp [D.nm] at n
  | _, _, n, .dk h e r => by simp [D.nm] at n
  | _, _, n, .sc h => by simp [D.nm] at n
  | _, _, n, .fe h => by simp [D.nm] at n
  | _, _, n, .dt h e r => by simp [D.nm] at n
  | _, _, n, .kf h e r => by simp [D.nm] at n
  | _, _, n, .tf h e r => by simp [D.nm] at n
  | _, _, n, .ex _ _ _ => by simp [D.nm] at n
  | _, _, n, .cl _ => by simp [D.nm] at n
theorem Rps.thaw (hB : ∀ a o, TuO o → B a = some o → B2 a = some o) : ∀ {ds : List D} {vs : List V}, nms ds = true → Rps K B ds vs → Rps K B2 ds vs
  | _, _, _, .nil => .nil
  | d :: ds, _, n, .cons h r => by
    have n' : d.nm = true ∧ nms ds = true := by simpa [nms] using n
    exact .cons (Rp.thaw hB n'.1 h) (Rps.thaw hB n'.2 r)
end
theorem Cont.thaw (hB : ∀ a o, TuO o → B a = Option.some o → B2 a = Option.some o) {d : D} {o : Option HO} (n : d.nmC = true) (h : Cont K B d o) : Cont K B2 d o := by
  cases h with
  | lst r => exact .lst (r.thaw hB n)
  | dk e r => exact .dk e (r.thaw hB n)
  | dt e r => exact .dt e (r.thaw hB n)
end

/-- sem: of the arguments' contents the answer, and the parameters' contents behind it; sig: which parameters are changed -/
structure Fs where
  sem : List D → Option (Vl × List D)
  sig : List Bool
def mkE : Nat → List Bool → List D → Env
  | k, b :: bs, d :: ds => (if b = true then .io k d else .im d) :: mkE (k + 1) bs ds
  | _, _, _ => []
theorem mkE_get : ∀ {sig : List Bool} {ds : List D} {k j : Nat} {sl : Sl}, (mkE k sig ds)[j]? = some sl → ∃ b d, sig[j]? = some b ∧ ds[j]? = some d ∧ sl = if b = true then .io (k + j) d else .im d
  | [], ds, k, j, sl, h => by simp [mkE] at h
  | b :: bs, [], k, j, sl, h => by simp [mkE] at h
  | b :: bs, d :: ds, k, 0, sl, h => by
    simp [mkE] at h
    exact ⟨b, d, rfl, rfl, h.symm⟩
  | b :: bs, d :: ds, k, j + 1, sl, h => by
    have h : (mkE (k + 1) bs ds)[j]? = some sl := by simpa [mkE] using h
    obtain ⟨b', d', h1, h2, h3⟩ := mkE_get h
    exact ⟨b', d', by simpa using h1, by simpa using h2, by rw [h3, show k + 1 + j = k + (j + 1) by omega]⟩
theorem mkE_at : ∀ {sig : List Bool} {ds : List D} {k j : Nat} {b : Bool} {d : D}, sig[j]? = some b → ds[j]? = some d → (mkE k sig ds)[j]? = some (if b = true then .io (k + j) d else .im d)
  | [], ds, k, j, b, d, h, _ => by simp at h
  | _ :: _, [], k, j, b, d, _, h => by simp at h
  | b :: bs, d :: ds, k, 0, _, _, h1, h2 => by
    simp at h1 h2
    subst h1 h2
    rfl
  | b :: bs, d :: ds, k, j + 1, b', d', h1, h2 => by
    have h := mkE_at (k := k + 1) (j := j) (by simpa using h1) (by simpa using h2)
    have : (mkE k (b :: bs) (d :: ds))[j + 1]? = (mkE (k + 1) bs ds)[j]? := by simp [mkE]
    rw [this, h, show k + 1 + j = k + (j + 1) by omega]
theorem mkE_length : ∀ {sig : List Bool} {ds : List D} {k : Nat}, ds.length = sig.length → (mkE k sig ds).length = sig.length
  | [], [], _, _ => rfl
  | [], _ :: _, _, h => by simp at h
  | _ :: _, [], _, h => by simp at h
  | b :: bs, d :: ds, k, h => by
    show (mkE (k + 1) bs ds).length + 1 = bs.length + 1
    rw [mkE_length (by simpa using h)]

/-- a def's promise -/
def spF (K : PySem.W.Frag) (F : Fs) : Sp := fun vs H Q _ => ∃ (A : Anc) (B : Hp) (ds ds' : List D) (r : Vl), A.H0 = noT H ∧ A.B0 = B ∧ SR K A B H (vs.map some) (mkE 0 F.sig ds) ∧ ds.length = F.sig.length ∧ F.sem ds = some (r, ds') ∧
  ∀ B' H' v, Same B B' → ds'.length = ds.length → VRp K A B' H' (vs.map some) (mkE 0 F.sig ds') r v → Q v H'

def ioIx : List Bool → List Vl → List Nat
  | true :: bs, .bo i :: rs => i :: ioIx bs rs
  | _ :: bs, _ :: rs => ioIx bs rs
  | _, _ => []
def mutAt (e : Env) (i : Nat) : Bool := match e[i]? with
  | some sl => sl.mut
  | none => false
def brIx (e : Env) : List Bool → List Vl → List Nat
  | false :: bs, .bo i :: rs => if mutAt e i = true then i :: brIx e bs rs else brIx e bs rs
  | _ :: bs, _ :: rs => brIx e bs rs
  | _, _ => []
def ioAll (e : Env) : List Bool → List Vl → Bool
  | [], [] => true
  | true :: bs, .bo i :: rs => mutAt e i && ioAll e bs rs
  | false :: bs, _ :: rs => ioAll e bs rs
  | _, _ => false
def putC (e : Env) (i : Nat) (d : D) : Env := match e[i]? with
  | some (.ow _) => e.set i (.ow d)
  | some (.io j _) => e.set i (.io j d)
  | _ => e
def updE : List Bool → List Vl → List D → Env → Env
  | true :: bs, .bo i :: rs, d :: ds, e => updE bs rs ds (putC e i d)
  | _ :: bs, _ :: rs, _ :: ds, e => updE bs rs ds e
  | _, _, _, e => e

theorem putC_length (e : Env) (i : Nat) (d : D) : (putC e i d).length = e.length := by
  unfold putC
  split <;> simp
theorem putC_ne {e : Env} {i j : Nat} {d : D} (h : i ≠ j) : (putC e i d)[j]? = e[j]? := by
  unfold putC
  split
  · exact List.getElem?_set_ne h
  · exact List.getElem?_set_ne h
  · rfl
theorem putC_self (e : Env) (i : Nat) (d : D) : (putC e i d)[i]? = match e[i]? with
    | some (.ow _) => some (.ow d)
    | some (.io j _) => some (.io j d)
    | x => x := by
  unfold putC
  split
  · rename_i h
    rw [List.getElem?_set_self (List.getElem?_eq_some_iff.mp h).1]
  · rename_i h
    rw [List.getElem?_set_self (List.getElem?_eq_some_iff.mp h).1]
  · rename_i h1 h2
    generalize e[i]? = o at h1 h2
    cases o with
    | none => rfl
    | some sl =>
      cases sl with
      | em => rfl
      | im _ => rfl
      | ow _ => exact absurd rfl (h1 _)
      | io _ _ => exact absurd rfl (h2 _ _)
theorem updE_length : ∀ {sig : List Bool} {rs : List Vl} {ds : List D} {e : Env}, (updE sig rs ds e).length = e.length
  | [], _, _, _ => by simp [updE]
  | _ :: _, [], _, _ => by simp [updE]
  | _ :: _, _ :: _, [], _ => by simp [updE]
  | true :: bs, .bo i :: rs, d :: ds, e => by
    show (updE bs rs ds (putC e i d)).length = _
    rw [updE_length, putC_length]
  | true :: bs, .im _ :: rs, d :: ds, e => by
    show (updE bs rs ds e).length = _
    exact updE_length
  | true :: bs, .fr _ :: rs, d :: ds, e => by
    show (updE bs rs ds e).length = _
    exact updE_length
  | false :: bs, r :: rs, d :: ds, e => by
    show (updE bs rs ds e).length = _
    exact updE_length
theorem updE_ne {i : Nat} : ∀ {sig : List Bool} {rs : List Vl} {ds : List D} {e : Env}, i ∉ ioIx sig rs → (updE sig rs ds e)[i]? = e[i]?
  | [], _, _, _, _ => by simp [updE]
  | _ :: _, [], _, _, _ => by simp [updE]
  | _ :: _, _ :: _, [], _, _ => by simp [updE]
  | true :: bs, .bo k :: rs, d :: ds, e, h => by
    have h' : ¬ (i = k ∨ i ∈ ioIx bs rs) := by simpa [ioIx] using h
    show (updE bs rs ds (putC e k d))[i]? = _
    rw [updE_ne fun z => h' (.inr z), putC_ne fun z => h' (.inl z.symm)]
  | true :: bs, .im _ :: rs, d :: ds, e, h => by
    show (updE bs rs ds e)[i]? = _
    exact updE_ne h
  | true :: bs, .fr _ :: rs, d :: ds, e, h => by
    show (updE bs rs ds e)[i]? = _
    exact updE_ne h
  | false :: bs, .im _ :: rs, d :: ds, e, h => by
    show (updE bs rs ds e)[i]? = _
    exact updE_ne h
  | false :: bs, .fr _ :: rs, d :: ds, e, h => by
    show (updE bs rs ds e)[i]? = _
    exact updE_ne h
  | false :: bs, .bo _ :: rs, d :: ds, e, h => by
    show (updE bs rs ds e)[i]? = _
    exact updE_ne h
theorem ioIx_mem {i : Nat} : ∀ {sig : List Bool} {rs : List Vl}, i ∈ ioIx sig rs → ∃ j : Nat, sig[j]? = some true ∧ rs[j]? = some (Vl.bo i)
  | [], _, h => by simp [ioIx] at h
  | _ :: _, [], h => by simp [ioIx] at h
  | true :: bs, .bo k :: rs, h => by
    have h' : i = k ∨ i ∈ ioIx bs rs := by simpa [ioIx] using h
    rcases h' with rfl | h'
    · exact ⟨0, rfl, rfl⟩
    · obtain ⟨j, h1, h2⟩ := ioIx_mem h'
      exact ⟨j + 1, by simpa using h1, by simpa using h2⟩
  | true :: bs, .im _ :: rs, h => by
    obtain ⟨j, h1, h2⟩ := ioIx_mem (sig := bs) (rs := rs) h
    exact ⟨j + 1, by simpa using h1, by simpa using h2⟩
  | true :: bs, .fr _ :: rs, h => by
    obtain ⟨j, h1, h2⟩ := ioIx_mem (sig := bs) (rs := rs) h
    exact ⟨j + 1, by simpa using h1, by simpa using h2⟩
  | false :: bs, .im _ :: rs, h => by
    obtain ⟨j, h1, h2⟩ := ioIx_mem (sig := bs) (rs := rs) h
    exact ⟨j + 1, by simpa using h1, by simpa using h2⟩
  | false :: bs, .fr _ :: rs, h => by
    obtain ⟨j, h1, h2⟩ := ioIx_mem (sig := bs) (rs := rs) h
    exact ⟨j + 1, by simpa using h1, by simpa using h2⟩
  | false :: bs, .bo _ :: rs, h => by
    obtain ⟨j, h1, h2⟩ := ioIx_mem (sig := bs) (rs := rs) h
    exact ⟨j + 1, by simpa using h1, by simpa using h2⟩
theorem mem_ioIx {i : Nat} : ∀ {sig : List Bool} {rs : List Vl} {j : Nat}, sig[j]? = some true → rs[j]? = some (.bo i) → i ∈ ioIx sig rs
  | [], _, _, h, _ => by simp at h
  | _ :: _, [], _, _, h => by simp at h
  | b :: bs, r :: rs, 0, h1, h2 => by
    simp at h1 h2
    subst h1 h2
    simp [ioIx]
  | b :: bs, r :: rs, j + 1, h1, h2 => by
    have ih := mem_ioIx (i := i) (sig := bs) (rs := rs) (j := j) (by simpa using h1) (by simpa using h2)
    cases b with
    | true =>
      cases r with
      | bo k => simp [ioIx, ih]
      | im _ => exact ih
      | fr _ => exact ih
    | false =>
      cases r with
      | bo k => exact ih
      | im _ => exact ih
      | fr _ => exact ih
/-- which place of the arguments a changed slot has: one alone -/
theorem ioIx_one {i : Nat} : ∀ {sig : List Bool} {rs : List Vl} {j k : Nat}, (ioIx sig rs).Nodup → sig[j]? = some true → rs[j]? = some (.bo i) → sig[k]? = some true → rs[k]? = some (.bo i) → j = k
  | [], _, _, _, _, h, _, _, _ => by simp at h
  | _ :: _, [], _, _, _, _, h, _, _ => by simp at h
  | b :: bs, r :: rs, 0, 0, _, _, _, _, _ => rfl
  | b :: bs, r :: rs, 0, k + 1, nd, h1, h2, h3, h4 => by
    simp at h1 h2
    subst h1 h2
    have m := mem_ioIx (i := i) (sig := bs) (rs := rs) (j := k) (by simpa using h3) (by simpa using h4)
    have nd' : i ∉ ioIx bs rs ∧ (ioIx bs rs).Nodup := by simpa [ioIx] using nd
    exact absurd m nd'.1
  | b :: bs, r :: rs, j + 1, 0, nd, h1, h2, h3, h4 => by
    simp at h3 h4
    subst h3 h4
    have m := mem_ioIx (i := i) (sig := bs) (rs := rs) (j := j) (by simpa using h1) (by simpa using h2)
    have nd' : i ∉ ioIx bs rs ∧ (ioIx bs rs).Nodup := by simpa [ioIx] using nd
    exact absurd m nd'.1
  | b :: bs, r :: rs, j + 1, k + 1, nd, h1, h2, h3, h4 => by
    have nd' : (ioIx bs rs).Nodup := by
      cases b with
      | true =>
        cases r with
        | bo q =>
          have z : q ∉ ioIx bs rs ∧ (ioIx bs rs).Nodup := by simpa [ioIx] using nd
          exact z.2
        | im _ => exact nd
        | fr _ => exact nd
      | false =>
        cases r with
        | bo q => exact nd
        | im _ => exact nd
        | fr _ => exact nd
    rw [ioIx_one nd' (j := j) (k := k) (by simpa using h1) (by simpa using h2) (by simpa using h3) (by simpa using h4)]
theorem updE_at {i : Nat} {d : D} : ∀ {sig : List Bool} {rs : List Vl} {ds : List D} {e : Env} {j : Nat}, (ioIx sig rs).Nodup → sig[j]? = some true → rs[j]? = some (.bo i) → ds[j]? = some d → (updE sig rs ds e)[i]? = (putC e i d)[i]?
  | [], _, _, _, _, _, h, _, _ => by simp at h
  | _ :: _, [], _, _, _, _, _, h, _ => by simp at h
  | _ :: _, _ :: _, [], _, _, _, _, _, h => by simp at h
  | b :: bs, r :: rs, d' :: ds, e, 0, nd, h1, h2, h3 => by
    simp at h1 h2 h3
    subst h1 h2 h3
    have nd' : i ∉ ioIx bs rs ∧ (ioIx bs rs).Nodup := by simpa [ioIx] using nd
    show (updE bs rs ds (putC e i d'))[i]? = _
    rw [updE_ne nd'.1]
  | b :: bs, r :: rs, d' :: ds, e, j + 1, nd, h1, h2, h3 => by
    have m := mem_ioIx (i := i) (sig := bs) (rs := rs) (j := j) (by simpa using h1) (by simpa using h2)
    cases b with
    | true =>
      cases r with
      | bo q =>
        have z : q ∉ ioIx bs rs ∧ (ioIx bs rs).Nodup := by simpa [ioIx] using nd
        show (updE bs rs ds (putC e q d'))[i]? = _
        rw [updE_at z.2 (j := j) (by simpa using h1) (by simpa using h2) (by simpa using h3)]
        have ne : q ≠ i := fun w => z.1 (w ▸ m)
        rw [putC_self, putC_self, putC_ne ne]
      | im _ => exact updE_at (sig := bs) (rs := rs) (ds := ds) (j := j) nd (by simpa using h1) (by simpa using h2) (by simpa using h3)
      | fr _ => exact updE_at (sig := bs) (rs := rs) (ds := ds) (j := j) nd (by simpa using h1) (by simpa using h2) (by simpa using h3)
    | false =>
      cases r with
      | bo q => exact updE_at (sig := bs) (rs := rs) (ds := ds) (j := j) nd (by simpa using h1) (by simpa using h2) (by simpa using h3)
      | im _ => exact updE_at (sig := bs) (rs := rs) (ds := ds) (j := j) nd (by simpa using h1) (by simpa using h2) (by simpa using h3)
      | fr _ => exact updE_at (sig := bs) (rs := rs) (ds := ds) (j := j) nd (by simpa using h1) (by simpa using h2) (by simpa using h3)
theorem ioAll_at {e : Env} : ∀ {sig : List Bool} {rs : List Vl} {j : Nat}, ioAll e sig rs = true → sig[j]? = some true → ∃ i, rs[j]? = some (.bo i) ∧ mutAt e i = true
  | [], [], _, _, h => by simp at h
  | [], _ :: _, _, h, _ => by simp [ioAll] at h
  | b :: bs, [], _, h, _ => by cases b <;> simp [ioAll] at h
  | b :: bs, r :: rs, 0, h, h1 => by
    simp at h1
    subst h1
    cases r with
    | bo i =>
      have h : mutAt e i = true ∧ ioAll e bs rs = true := by simpa [ioAll] using h
      exact ⟨i, rfl, h.1⟩
    | im _ => simp [ioAll] at h
    | fr _ => simp [ioAll] at h
  | b :: bs, r :: rs, j + 1, h, h1 => by
    have h2 : ioAll e bs rs = true := by
      cases b with
      | true =>
        cases r with
        | bo i =>
          have h : mutAt e i = true ∧ ioAll e bs rs = true := by simpa [ioAll] using h
          exact h.2
        | im _ => simp [ioAll] at h
        | fr _ => simp [ioAll] at h
      | false => simpa [ioAll] using h
    obtain ⟨i, h3, h4⟩ := ioAll_at h2 (j := j) (by simpa using h1)
    exact ⟨i, by simpa using h3, h4⟩
theorem ioAll_len {e : Env} : ∀ {sig : List Bool} {rs : List Vl}, ioAll e sig rs = true → sig.length = rs.length
  | [], [], _ => rfl
  | [], _ :: _, h => by simp [ioAll] at h
  | b :: bs, [], h => by cases b <;> simp [ioAll] at h
  | b :: bs, r :: rs, h => by
    have h2 : ioAll e bs rs = true := by
      cases b with
      | true =>
        cases r with
        | bo i =>
          have h : mutAt e i = true ∧ ioAll e bs rs = true := by simpa [ioAll] using h
          exact h.2
        | im _ => simp [ioAll] at h
        | fr _ => simp [ioAll] at h
      | false => simpa [ioAll] using h
    simp [ioAll_len h2]
theorem mem_brIx {e : Env} {i : Nat} : ∀ {sig : List Bool} {rs : List Vl} {j : Nat}, sig[j]? = some false → rs[j]? = some (.bo i) → mutAt e i = true → i ∈ brIx e sig rs
  | [], _, _, h, _, _ => by simp at h
  | _ :: _, [], _, _, h, _ => by simp at h
  | b :: bs, r :: rs, 0, h1, h2, h3 => by
    simp at h1 h2
    subst h1 h2
    simp [brIx, h3]
  | b :: bs, r :: rs, j + 1, h1, h2, h3 => by
    have ih := mem_brIx (e := e) (i := i) (sig := bs) (rs := rs) (j := j) (by simpa using h1) (by simpa using h2) h3
    cases b with
    | false =>
      cases r with
      | bo k =>
        show i ∈ (if mutAt e k = true then k :: brIx e bs rs else brIx e bs rs)
        split
        · exact List.mem_cons_of_mem _ ih
        · exact ih
      | im _ => exact ih
      | fr _ => exact ih
    | true =>
      cases r with
      | bo k => exact ih
      | im _ => exact ih
      | fr _ => exact ih
theorem cnts_get {e : Env} : ∀ {rs : List Vl} {ds : List D} {j : Nat} {r : Vl}, cnts e rs = some ds → rs[j]? = some r → ∃ d, ds[j]? = some d ∧ cnt e r = some d
  | [], _, _, _, _, h => by simp at h
  | r :: rs, ds, j, r', h, h1 => by
    unfold cnts at h
    split at h
    · rename_i d ds' e1 e2
      cases h
      cases j with
      | zero =>
        simp at h1
        subst h1
        exact ⟨d, rfl, e1⟩
      | succ j =>
        obtain ⟨d', h2, h3⟩ := cnts_get e2 (j := j) (by simpa using h1)
        exact ⟨d', by simpa using h2, h3⟩
    · cases h
theorem cnts_len {e : Env} : ∀ {rs : List Vl} {ds : List D}, cnts e rs = some ds → ds.length = rs.length
  | [], _, h => by
    cases h
    rfl
  | r :: rs, ds, h => by
    unfold cnts at h
    split at h
    · rename_i d ds' e1 e2
      cases h
      simp [cnts_len e2]
    · cases h
theorem paired_get {α β : Type} {R : α → β → Prop} : ∀ {as : List α} {bs : List β} {j : Nat} {a : α}, Paired R as bs → as[j]? = some a → ∃ b, bs[j]? = some b ∧ R a b
  | _, _, _, _, .nil, h => by simp at h
  | _, _, 0, _, .cons r _, h => by
    simp at h
    subst h
    exact ⟨_, rfl, r⟩
  | _, _, j + 1, a, .cons _ t, h => by
    obtain ⟨b, h1, h2⟩ := paired_get (j := j) (a := a) t (by simpa using h)
    exact ⟨b, by simpa using h1, h2⟩
theorem paired_getR {α β : Type} {R : α → β → Prop} : ∀ {as : List α} {bs : List β} {j : Nat} {b : β}, Paired R as bs → bs[j]? = some b → ∃ a, as[j]? = some a ∧ R a b
  | _, _, _, _, .nil, h => by simp at h
  | _, _, 0, _, .cons r _, h => by
    simp at h
    subst h
    exact ⟨_, rfl, r⟩
  | _, _, j + 1, a, .cons _ t, h => by
    obtain ⟨b, h1, h2⟩ := paired_getR (j := j) (b := a) t (by simpa using h)
    exact ⟨b, by simpa using h1, h2⟩
end PD
namespace PD
variable [PD.TabL]
open PySem PySem.Spec PyProof.Rows L2

section
variable {K : PySem.W.Frag} {A : Anc} {B H : Hp} {σ τ : L2.St} {env pe : Env}
/-- the addresses of containers that are lent to a def for reading -/
def Lent (env : Env) (sig : List Bool) (rs : List Vl) (vs : List V) (a : Addr) : Prop := ∃ (j i : Nat), sig[j]? = some false ∧ rs[j]? = some (Vl.bo i) ∧ mutAt env i = true ∧ vs[j]? = some (V.ref a)
/-- the addresses of containers that a def may change -/
def ioOf (sig : List Bool) (vs : List V) (j : Nat) : Option Addr := if sig[j]? = some true then match vs[j]? with
    | some (.ref p) => some p
    | _ => none
  else none
open Classical in
theorem call_ok {F : Fs} {rs : List Vl} {vs : List V} {ds ds' : List D} {r : Vl} (S : SR K A B H (σ ++ τ) (env ++ pe)) (hl : σ.length = env.length) (hr : Paired (Hv K B σ) rs vs) (hc : cnts env rs = some ds)
    (hio : ioAll env F.sig rs = true) (hnd : (ioIx F.sig rs).Nodup) (hdj : ∀ i ∈ ioIx F.sig rs, i ∉ brIx env F.sig rs) (hf : F.sem ds = some (r, ds'))
    (hnm : brIx env F.sig rs = [] ∨ (r.nm = true ∧ ∀ (j : Nat) (d : D), F.sig[j]? = some true → ds'[j]? = some d → d.nmC = true)) (Q : VK)
    (q : ∀ B' H' v, Same B B' → VR K A B' H' σ τ (updE F.sig rs ds' env) pe r v → Q v H') (E : XK) : spF K F vs H Q E := by
  have lrv : rs.length = vs.length := Paired.length hr
  have lsr : F.sig.length = rs.length := ioAll_len hio
  have lds : ds.length = rs.length := cnts_len hc
  -- a slot that holds something to be changed
  have held : ∀ (i : Nat) (v : V), mutAt env i = true → σ[i]? = some (some v) → ∃ p sl d, v = .ref p ∧ env[i]? = some sl ∧ sl.mut = true ∧ cnt env (.bo i) = some d ∧ B p = none ∧ (A.H0 p = none ∨ A.isIo p) ∧ Cont K B d (H p) := by
    intro i v hm hv
    unfold mutAt at hm
    split at hm
    · rename_i sl he
      cases S.at hl he hv with
      | em => cases hm
      | im _ => cases hm
      | @ow d p b h0 c => exact ⟨p, _, d, rfl, he, rfl, by simp only [cnt, he], b, .inl h0, c⟩
      | @io d p j h c => exact ⟨p, _, d, rfl, he, rfl, by simp only [cnt, he], (S.iob p ⟨_, h⟩).1, .inr ⟨_, h⟩, c⟩
    · cases hm
  have lentC : ∀ a, Lent env F.sig rs vs a → ∃ i sl d, i ∈ brIx env F.sig rs ∧ σ[i]? = some (some (.ref a)) ∧ env[i]? = some sl ∧ sl.mut = true ∧ cnt env (.bo i) = some d ∧ B a = none ∧ (A.H0 a = none ∨ A.isIo a) ∧ Cont K B d (H a) := by
    rintro a ⟨j, i, h1, h2, h3, h4⟩
    obtain ⟨v', h5, h6⟩ := paired_get hr h2
    rw [h4] at h5
    cases h5
    have h6 : σ[i]? = some (some (V.ref a)) := h6
    obtain ⟨p, sl, d, e1, e2, e3, e4, e5, e6, e7⟩ := held i _ h3 h6
    cases e1
    exact ⟨i, sl, d, mem_brIx h1 h2 h3, h6, e2, e3, e4, e5, e6, e7⟩
  have ioC : ∀ j p, ioOf F.sig vs j = some p → ∃ i sl d, F.sig[j]? = some true ∧ rs[j]? = some (.bo i) ∧ vs[j]? = some (.ref p) ∧ i ∈ ioIx F.sig rs ∧ σ[i]? = some (some (.ref p)) ∧ env[i]? = some sl ∧ sl.mut = true ∧ ds[j]? = some d ∧ B p = none ∧ (A.H0 p = none ∨ A.isIo p) ∧ Cont K B d (H p) := by
    intro j p h
    unfold ioOf at h
    split at h
    · rename_i hs
      obtain ⟨i, h2, h3⟩ := ioAll_at hio hs
      obtain ⟨v', h5, h6⟩ := paired_get hr h2
      rw [h5] at h
      have h6 : σ[i]? = some (some v') := h6
      obtain ⟨p', sl, d, e1, e2, e3, e4, e5, e6, e7⟩ := held i _ h3 h6
      subst e1
      cases h
      obtain ⟨d', g1, g2⟩ := cnts_get hc h2
      rw [e4] at g2
      cases g2
      exact ⟨i, sl, d, hs, h2, h5, mem_ioIx hs h2, h6, e2, e3, g1, e5, e6, e7⟩
    · cases h
  have apart : ∀ (i i' : Nat) (p : Addr) (sl sl' : Sl), env[i]? = some sl → env[i']? = some sl' → sl.mut = true → sl'.mut = true → σ[i]? = some (some (.ref p)) → σ[i']? = some (some (.ref p)) → i = i' := fun i i' p sl sl' h1 h2 h3 h4 h5 h6 => by
    by_cases z : i = i'
    · exact z
    · refine (S.inj i i' p sl sl' z ?_ ?_ h3 h4 ?_ ?_).elim
      · rw [List.getElem?_append_left (List.getElem?_eq_some_iff.mp h1).1]; exact h1
      · rw [List.getElem?_append_left (List.getElem?_eq_some_iff.mp h2).1]; exact h2
      · rw [List.getElem?_append_left (List.getElem?_eq_some_iff.mp h5).1]; exact h5
      · rw [List.getElem?_append_left (List.getElem?_eq_some_iff.mp h6).1]; exact h6
  have ioNotLent : ∀ j p, ioOf F.sig vs j = some p → ¬ Lent env F.sig rs vs p := by
    intro j p h h'
    obtain ⟨i, sl, d, _, _, _, m, e1, e2, e3, _⟩ := ioC j p h
    obtain ⟨i', sl', d', m', f1, f2, f3, _⟩ := lentC p h'
    have := apart i i' p sl sl' e2 f2 e3 f3 e1 f1
    subst this
    exact hdj i m m'
  -- the callee's beginning
  let Bc : Hp := fun a => if Lent env F.sig rs vs a then H a else B a
  have BcL : ∀ a, Lent env F.sig rs vs a → Bc a = H a := fun a h => if_pos h
  have BcN : ∀ a, ¬ Lent env F.sig rs vs a → Bc a = B a := fun a h => if_neg h
  have sBc : Same B Bc := fun a o e => by
    by_cases h : Lent env F.sig rs vs a
    · obtain ⟨_, _, _, _, _, _, _, _, b, _⟩ := lentC a h
      rw [b] at e
      cases e
    · rw [BcN a h]
      exact e
  have sBH : Same Bc H := fun a o e => by
    by_cases h : Lent env F.sig rs vs a
    · rw [BcL a h] at e
      exact e
    · rw [BcN a h] at e
      exact S.same a o e
  have ioN : ∀ j p, ioOf F.sig vs j = some p → p ∉ tbA := fun j p h => by
    obtain ⟨_, _, _, _, _, _, _, _, _, _, _, _, _, c⟩ := ioC j p h
    exact S.tC c
  have leN : ∀ a, Lent env F.sig rs vs a → a ∉ tbA := fun a h => by
    obtain ⟨_, _, _, _, _, _, _, _, _, _, c⟩ := lentC a h
    exact S.tC c
  let Ac : Anc := ⟨noT H, Bc, ioOf F.sig vs⟩
  have S0 : SR K Ac Bc H (vs.map some) (mkE 0 F.sig ds) := by
    refine ⟨by rw [List.length_map, mkE_length (by omega)]; omega, sBH, fun j sl ov e1 e2 => ?_, fun j j' p sl sl' ne e1 e2 m1 m2 e3 e4 => ?_, fun a o e _ => ⟨noT_some e, .inl rfl⟩, fun a ⟨j, h⟩ => ?_, fun a ⟨j, h⟩ => ?_, fun p hp => ⟨(S.tab p hp).1, by rw [BcN p.1 fun z => leN _ z (List.mem_map.mpr ⟨p, hp, rfl⟩)]; exact (S.tab p hp).2.1, noT_tab hp⟩⟩
    · obtain ⟨b, d, h1, h2, rfl⟩ := mkE_get e1
      rw [List.getElem?_map] at e2
      cases hv : vs[j]? with
      | none =>
        rw [hv] at e2
        cases e2
      | some v =>
        rw [hv] at e2
        cases e2
        obtain ⟨r', h3, h4⟩ := paired_getR hr hv
        obtain ⟨d', h5, h6⟩ := cnts_get hc h3
        rw [h2] at h5
        cases h5
        cases b with
        | true =>
          rw [if_pos rfl]
          obtain ⟨i, g1, g2⟩ := ioAll_at hio h1
          rw [h3] at g1
          cases g1
          have h4 : σ[i]? = some (some v) := h4
          obtain ⟨p, sl, d2, f1, f2, f3, f4, f5, f6, f7⟩ := held i v g2 h4
          subst f1
          rw [h6] at f4
          cases f4
          rw [Nat.zero_add]
          refine .io ?_ (f7.mono sBc)
          show ioOf F.sig vs j = some p
          unfold ioOf
          rw [if_pos h1, hv]
        | false =>
          rw [if_neg Bool.false_ne_true]
          cases r' with
          | im d2 =>
            cases h6
            have h4 : Rp K B d v := h4
            exact .im (h4.mono sBc)
          | fr d2 => exact h4.elim
          | bo i =>
            have h4 : σ[i]? = some (some v) := h4
            by_cases hm : mutAt env i = true
            · obtain ⟨p, sl, d2, f1, f2, f3, f4, f5, f6, f7⟩ := held i v hm h4
              subst f1
              rw [h6] at f4
              cases f4
              refine .im (f7.frozen sBc ?_)
              exact BcL p ⟨j, i, h1, h3, hm, hv⟩
            · have h6' := h6
              unfold cnt at h6'
              dsimp only at h6'
              split at h6'
              · rename_i d2 he
                cases h6'
                cases S.at hl he h4 with
                | im rr => exact .im (rr.mono sBc)
              · rename_i d2 he
                exact absurd (by unfold mutAt; rw [he]; rfl) hm
              · rename_i d2 he
                exact absurd (by unfold mutAt; rw [he]; rfl) hm
              · cases h6'
    · obtain ⟨b, d, h1, h2, rfl⟩ := mkE_get e1
      obtain ⟨b', d', h1', h2', rfl⟩ := mkE_get e2
      cases b with
      | false => cases m1
      | true =>
        cases b' with
        | false => cases m2
        | true =>
          have k1 : ioOf F.sig vs j = some p := by
            unfold ioOf
            rw [List.getElem?_map] at e3
            cases hv : vs[j]? with
            | none => rw [hv] at e3; cases e3
            | some v =>
              rw [hv] at e3
              cases e3
              rw [if_pos h1]
          have k2 : ioOf F.sig vs j' = some p := by
            unfold ioOf
            rw [List.getElem?_map] at e4
            cases hv : vs[j']? with
            | none => rw [hv] at e4; cases e4
            | some v =>
              rw [hv] at e4
              cases e4
              rw [if_pos h1']
          obtain ⟨i, sl, d3, x1, x2, x3, m, y1, y2, y3, _⟩ := ioC j p k1
          obtain ⟨i', sl', d4, x1', x2', x3', m', z1, z2, z3, _⟩ := ioC j' p k2
          have := apart i i' p sl sl' y2 z2 y3 z3 y1 z1
          subst this
          exact ne (ioIx_one hnd x1 x2 x1' x2')
    · obtain ⟨i, sl, d, _, _, _, m, e1, e2, e3, _, b, _, c⟩ := ioC j a h
      obtain ⟨o, ho⟩ := c.some
      rw [ho] at c
      exact ⟨by rw [BcN a (ioNotLent j a h)]; exact b, o, ho, c.nt⟩
    · obtain ⟨i, sl, d, _, _, _, m, e1, e2, e3, _, b, _, c⟩ := ioC j a h
      show ∃ o, noT H a = some o
      rw [noT_of (ioN j a h)]
      exact c.some
  refine ⟨Ac, Bc, ds, ds', r, rfl, rfl, S0, by omega, hf, fun B1 H1 v s1 hld R => ?_⟩
  -- what stands behind it, for the caller
  have S1 : SR K Ac B1 H1 (vs.map some) (mkE 0 F.sig ds') := by
    cases r with
    | im d => exact R.1
    | fr d => exact SR.front (σ2 := [some v]) (env2 := [.ow d]) R (by rw [List.length_map, mkE_length (by omega)]; omega)
    | bo i => exact R.elim
  let B2 : Hp := fun a => if Lent env F.sig rs vs a then none else B1 a
  have B2L : ∀ a, Lent env F.sig rs vs a → B2 a = none := fun a h => if_pos h
  have B2N : ∀ a, ¬ Lent env F.sig rs vs a → B2 a = B1 a := fun a h => if_neg h
  have sB2 : Same B B2 := fun a o e => by
    by_cases h : Lent env F.sig rs vs a
    · obtain ⟨_, _, _, _, _, _, _, _, b, _⟩ := lentC a h
      rw [b] at e
      cases e
    · rw [B2N a h]
      exact s1 a o (sBc a o e)
  have sB21 : Same B2 B1 := fun a o e => by
    by_cases h : Lent env F.sig rs vs a
    · rw [B2L a h] at e
      cases e
    · rw [B2N a h] at e
      exact e
  -- data without lists leans on nothing that was lent
  have tT : ∀ a o, TuO o → B1 a = some o → B2 a = some o := fun a x tu h => by
    by_cases hL : Lent env F.sig rs vs a
    · obtain ⟨i, sl, d, _, _, _, _, _, _, _, c⟩ := lentC a hL
      have hb : B1 a = H a := by
        obtain ⟨o, ho⟩ := c.some
        rw [ho]
        exact s1 a o (by rw [BcL a hL]; exact ho)
      rw [hb] at h
      rw [h] at c
      exact absurd tu c.nu
    · rw [B2N a hL]
      exact h
  have noL : brIx env F.sig rs = [] → ∀ a, ¬ Lent env F.sig rs vs a := fun e a h => by
    obtain ⟨i, _, _, m, _⟩ := lentC a h
    rw [e] at m
    cases m
  have eqB : brIx env F.sig rs = [] → B2 = B1 := fun e => funext fun a => B2N a (noL e a)
  have contIo : ∀ (j : Nat) (d : D) (o : Option HO), F.sig[j]? = some true → ds'[j]? = some d → Cont K B1 d o → Cont K B2 d o := fun j d o h1 h2 c => by
    rcases hnm with e | ⟨_, hn⟩
    · rw [eqB e]
      exact c
    · exact c.thaw tT (hn j d h1 h2)
  -- a container of the caller's that the def hasn't in hand
  have other : ∀ (p : Addr) (d : D), Cont K B d (H p) → (¬ ∃ j, ioOf F.sig vs j = some p) → H1 p = H p ∧ B1 p = Bc p := fun p d c n => by
    obtain ⟨o, ho⟩ := c.some
    obtain ⟨e1, e2⟩ := S1.anc p o ((noT_of (S.tC c)).trans ho) n
    rw [ho] at c
    exact ⟨by rw [e1, ho], e2.resolve_right fun ⟨ts, z⟩ => c.nt ts z⟩
  have isIoC : ∀ p, (∃ j, ioOf F.sig vs j = some p) → ∃ (i j : Nat) (sl : Sl) (d' : D), i ∈ ioIx F.sig rs ∧ F.sig[j]? = some true ∧ rs[j]? = some (.bo i) ∧ σ[i]? = some (some (.ref p)) ∧ env[i]? = some sl ∧ sl.mut = true ∧ ds'[j]? = some d' ∧ Cont K B2 d' (H1 p) ∧ B2 p = none := by
    rintro p ⟨j, h⟩
    obtain ⟨i, sl, d, x1, x2, x3, m, y1, y2, y3, _, b, _, c⟩ := ioC j p h
    have hj : j < F.sig.length := (List.getElem?_eq_some_iff.mp x1).1
    have hd : ds'[j]? = some (ds'[j]'(by omega)) := List.getElem?_eq_getElem (by omega)
    have e1 := mkE_at (k := 0) x1 hd
    have e2 : (vs.map some)[j]? = some (some (V.ref p)) := by rw [List.getElem?_map, x3]; rfl
    have sl1 := S1.slot j _ _ e1 e2
    rw [if_pos rfl] at sl1
    cases sl1 with
    | io h' c' =>
      exact ⟨i, j, sl, _, m, x1, x2, y1, y2, y3, hd, contIo j _ _ x1 hd c', by rw [B2N p (ioNotLent j p h)]; exact (S1.iob p ⟨j, h⟩).1⟩
  have S2 : SR K A B2 H1 (σ ++ τ) (updE F.sig rs ds' env ++ pe) := by
    have lu : (updE F.sig rs ds' env).length = env.length := updE_length
    refine ⟨?_, fun a o e => S1.same a o (sB21 a o e), fun i sl ov e1 e2 => ?_, fun i i' p sl sl' ne e1 e2 m1 m2 e3 e4 => ?_, fun a o e n => ?_, fun a n => ?_, S.ioh, fun p hp => ⟨(S1.tab p hp).1, by rw [B2N p.1 fun z => leN _ z (List.mem_map.mpr ⟨p, hp, rfl⟩)]; exact (S1.tab p hp).2.1, (S.tab p hp).2.2⟩⟩
    · have := S.len
      simp only [List.length_append] at this ⊢
      omega
    · -- what the caller's slot i had
      have old : ∃ sl0, (env ++ pe)[i]? = some sl0 ∧ (sl0 = sl ∨ (i ∈ ioIx F.sig rs ∧ i < env.length)) := by
        by_cases hi : i < env.length
        · by_cases hm : i ∈ ioIx F.sig rs
          · exact ⟨env[i], by rw [List.getElem?_append_left hi]; exact List.getElem?_eq_getElem hi, .inr ⟨hm, hi⟩⟩
          · rw [List.getElem?_append_left (by omega), updE_ne hm] at e1
            exact ⟨sl, by rw [List.getElem?_append_left hi]; exact e1, .inl rfl⟩
        · rw [List.getElem?_append_right (by omega), lu] at e1
          exact ⟨sl, by rw [List.getElem?_append_right (by omega)]; exact e1, .inl rfl⟩
      obtain ⟨sl0, h0, h1⟩ := old
      rcases h1 with rfl | ⟨hm, hi⟩
      · -- untouched
        by_cases hio2 : i ∈ ioIx F.sig rs ∧ i < env.length
        · obtain ⟨hm, hi⟩ := hio2
          obtain ⟨j, x1, x2⟩ := ioIx_mem hm
          obtain ⟨i2, y1, y2⟩ := ioAll_at hio x1
          rw [x2] at y1
          cases y1
          rw [List.getElem?_append_left (by omega)] at e2
          obtain ⟨v', z1, z2⟩ := paired_get hr x2
          have z2 : σ[i]? = some (some v') := z2
          rw [e2] at z2
          cases z2
          obtain ⟨p, sl2, d2, rfl, f2, f3, _⟩ := held i v' y2 e2
          have kj : ioOf F.sig vs j = some p := by
            unfold ioOf
            rw [if_pos x1, z1]
          obtain ⟨i3, j3, sl3, d3, w1, w2, w3, w4, w5, w6, w7, w8, w9⟩ := isIoC p ⟨j, kj⟩
          have := apart i i3 p sl2 sl3 f2 w5 f3 w6 e2 w4
          subst this
          have ej := ioIx_one hnd x1 x2 w2 w3
          subst ej
          rw [List.getElem?_append_left (by omega), updE_at hnd x1 x2 w7, putC_self] at e1
          rw [f2] at e1
          cases sl2 with
          | em => cases f3
          | im _ => cases f3
          | ow d4 =>
            cases e1
            cases S.at hl f2 e2 with
            | ow b0 h00 c0 => exact .ow w9 h00 w8
          | io k d4 =>
            cases e1
            cases S.at hl f2 e2 with
            | io h00 c0 => exact .io h00 w8
        · have s := S.slot i _ ov h0 e2
          cases s with
          | em => exact .em
          | im rr => exact .im (rr.mono sB2)
          | @ow d p b h00 c =>
            have n : ¬ ∃ j, ioOf F.sig vs j = some p := fun z => by
              obtain ⟨i3, j3, sl3, d3, w1, w2, w3, w4, w5, w6, w7, w8, w9⟩ := isIoC p z
              have h5 : (env ++ pe)[i3]? = some sl3 := by
                rw [List.getElem?_append_left (List.getElem?_eq_some_iff.mp w5).1]; exact w5
              have h6 : (σ ++ τ)[i3]? = some (some (V.ref p)) := by
                rw [List.getElem?_append_left (List.getElem?_eq_some_iff.mp w4).1]; exact w4
              by_cases q2 : i = i3
              · subst q2
                exact hio2 ⟨w1, (List.getElem?_eq_some_iff.mp w5).1⟩
              · exact S.inj i i3 p _ sl3 q2 h0 h5 rfl w6 e2 h6
            obtain ⟨g1, g2⟩ := other p d c n
            refine .ow ?_ h00 (by rw [g1]; exact c.mono sB2)
            by_cases hL : Lent env F.sig rs vs p
            · exact B2L p hL
            · rw [B2N p hL, g2, BcN p hL]
              exact b
          | @io d p k h00 c =>
            have n : ¬ ∃ j, ioOf F.sig vs j = some p := fun z => by
              obtain ⟨i3, j3, sl3, d3, w1, w2, w3, w4, w5, w6, w7, w8, w9⟩ := isIoC p z
              have h5 : (env ++ pe)[i3]? = some sl3 := by
                rw [List.getElem?_append_left (List.getElem?_eq_some_iff.mp w5).1]; exact w5
              have h6 : (σ ++ τ)[i3]? = some (some (V.ref p)) := by
                rw [List.getElem?_append_left (List.getElem?_eq_some_iff.mp w4).1]; exact w4
              by_cases q2 : i = i3
              · subst q2
                exact hio2 ⟨w1, (List.getElem?_eq_some_iff.mp w5).1⟩
              · exact S.inj i i3 p _ sl3 q2 h0 h5 rfl w6 e2 h6
            obtain ⟨g1, g2⟩ := other p d c n
            exact .io h00 (by rw [g1]; exact c.mono sB2)
      · obtain ⟨j, x1, x2⟩ := ioIx_mem hm
        obtain ⟨i2, y1, y2⟩ := ioAll_at hio x1
        rw [x2] at y1
        cases y1
        rw [List.getElem?_append_left (by omega)] at e2
        obtain ⟨v', z1, z2⟩ := paired_get hr x2
        have z2 : σ[i]? = some (some v') := z2
        rw [e2] at z2
        cases z2
        obtain ⟨p, sl2, d2, rfl, f2, f3, _⟩ := held i v' y2 e2
        have kj : ioOf F.sig vs j = some p := by
          unfold ioOf
          rw [if_pos x1, z1]
        obtain ⟨i3, j3, sl3, d3, w1, w2, w3, w4, w5, w6, w7, w8, w9⟩ := isIoC p ⟨j, kj⟩
        have := apart i i3 p sl2 sl3 f2 w5 f3 w6 e2 w4
        subst this
        have ej := ioIx_one hnd x1 x2 w2 w3
        subst ej
        rw [List.getElem?_append_left (by omega), updE_at hnd x1 x2 w7, putC_self] at e1
        rw [f2] at e1
        cases sl2 with
        | em => cases f3
        | im _ => cases f3
        | ow d4 =>
          cases e1
          cases S.at hl f2 e2 with
          | ow b0 h00 c0 => exact .ow w9 h00 w8
        | io k d4 =>
          cases e1
          cases S.at hl f2 e2 with
          | io h00 c0 => exact .io h00 w8
    · -- no two hold one
      have old : ∀ (i : Nat) (sl : Sl), (updE F.sig rs ds' env ++ pe)[i]? = some sl → sl.mut = true → ∃ sl0 : Sl, (env ++ pe)[i]? = some sl0 ∧ sl0.mut = true := fun i sl e m => by
        by_cases hi : i < env.length
        · rw [List.getElem?_append_left (by omega)] at e
          by_cases hm : i ∈ ioIx F.sig rs
          · obtain ⟨j, x1, x2⟩ := ioIx_mem hm
            obtain ⟨i2, y1, y2⟩ := ioAll_at hio x1
            rw [x2] at y1
            cases y1
            unfold mutAt at y2
            split at y2
            · rename_i sl0 he
              exact ⟨sl0, by rw [List.getElem?_append_left hi]; exact he, y2⟩
            · cases y2
          · rw [updE_ne hm] at e
            exact ⟨sl, by rw [List.getElem?_append_left hi]; exact e, m⟩
        · rw [List.getElem?_append_right (by omega), lu] at e
          exact ⟨sl, by rw [List.getElem?_append_right (by omega)]; exact e, m⟩
      obtain ⟨s0, a1, a2⟩ := old i sl e1 m1
      obtain ⟨s0', b1, b2⟩ := old i' sl' e2 m2
      exact S.inj i i' p s0 s0' ne a1 b1 a2 b2 e3 e4
    · obtain ⟨h1, h2⟩ := S.anc a o e n
      have ni : ¬ ∃ j, ioOf F.sig vs j = some a := fun ⟨j, z⟩ => by
        obtain ⟨_, _, _, _, _, _, _, _, _, _, _, _, h3, _⟩ := ioC j a z
        rcases h3 with h3 | h3
        · rw [h3] at e
          cases e
        · exact n h3
      have nL : ¬ Lent env F.sig rs vs a := fun z => by
        obtain ⟨_, _, _, _, _, _, _, _, _, h3, _⟩ := lentC a z
        rcases h3 with h3 | h3
        · rw [h3] at e
          cases e
        · exact n h3
      obtain ⟨g1, g2⟩ := S1.anc a o ((noT_of (S.tH e)).trans h1) ni
      rcases g2 with g2 | g2
      · refine ⟨g1, ?_⟩
        rw [B2N a nL, g2]
        show Bc a = _ ∨ _
        rw [BcN a nL]
        exact h2
      · exact ⟨g1, .inr g2⟩
    · obtain ⟨b0, o, ho, nt⟩ := S.iob a n
      obtain ⟨oh, eh⟩ := S.ioh a n
      have nT := S.tH eh
      by_cases hL : Lent env F.sig rs vs a
      · have ni : ¬ ∃ j, ioOf F.sig vs j = some a := fun ⟨j, z⟩ => ioNotLent j a z hL
        obtain ⟨g1, g2⟩ := S1.anc a o ((noT_of nT).trans ho) ni
        exact ⟨B2L a hL, o, g1, nt⟩
      · rw [B2N a hL]
        by_cases hI : ∃ j, ioOf F.sig vs j = some a
        · exact S1.iob a hI
        · obtain ⟨g1, g2⟩ := S1.anc a o ((noT_of nT).trans ho) hI
          refine ⟨?_, o, g1, nt⟩
          rw [g2.resolve_right fun ⟨ts, z⟩ => nt ts z]
          show Bc a = none
          rw [BcN a hL]
          exact b0
  cases r with
  | bo i => exact R.elim
  | im d =>
    refine q B2 H1 v sB2 ⟨S2, ?_⟩
    rcases hnm with e | ⟨hn, _⟩
    · rw [eqB e]
      exact R.2
    · exact R.2.thaw tT hn
  | fr d =>
    have R : SR K Ac B1 H1 (vs.map some ++ [some v]) (mkE 0 F.sig ds' ++ [.ow d]) := R
    have lm : (mkE 0 F.sig ds').length = vs.length := by rw [mkE_length (by omega)]; omega
    have e1 : (mkE 0 F.sig ds' ++ [Sl.ow d])[vs.length]? = some (.ow d) := by
      rw [← lm]
      simp
    have e2 : (vs.map some ++ [some v])[vs.length]? = some (some v) := by
      rw [List.getElem?_append_right (by simp)]
      simp
    cases R.slot _ _ _ e1 e2 with
    | @ow _ p b h0 c =>
      have hp : H p = none := (noT_of (R.tC c)).symm.trans h0
      obtain ⟨bp, a0, nio⟩ := S.new hp
      have nL : ¬ Lent env F.sig rs vs p := fun z => by
        obtain ⟨_, _, _, _, _, _, _, _, _, _, c2⟩ := lentC p z
        rw [hp] at c2
        cases c2
      have c2 : Cont K B2 d (H1 p) := by
        rcases hnm with e | ⟨hn, _⟩
        · rw [eqB e]
          exact c
        · exact c.thaw tT hn
      refine q B2 H1 (.ref p) sB2 ?_
      show SR K A B2 H1 (σ ++ τ ++ [some (.ref p)]) (updE F.sig rs ds' env ++ pe ++ [.ow d])
      have ln : (σ ++ τ).length = (updE F.sig rs ds' env ++ pe).length := S2.len
      -- no slot of the caller's holds p
      have no : ∀ (i : Nat) (sl : Sl), (updE F.sig rs ds' env ++ pe)[i]? = some sl → sl.mut = true → (σ ++ τ)[i]? ≠ some (some (.ref p)) := fun i sl e m z => by
        by_cases hi : i < env.length
        · have lu : (updE F.sig rs ds' env).length = env.length := updE_length
          rw [List.getElem?_append_left (by omega)] at e z
          by_cases hm : i ∈ ioIx F.sig rs
          · obtain ⟨j, x1, x2⟩ := ioIx_mem hm
            obtain ⟨i2, y1, y2⟩ := ioAll_at hio x1
            rw [x2] at y1
            cases y1
            obtain ⟨p', sl2, d2, f1, f2, f3, f4, f5, f6, f7⟩ := held i _ y2 z
            cases f1
            rw [hp] at f7
            cases f7
          · rw [updE_ne hm] at e
            obtain ⟨p', d2, o, f1, _, f2, _⟩ := (S.at hl e z).held m
            cases f1
            rw [hp] at f2
            cases f2
        · have lu : (updE F.sig rs ds' env).length = env.length := updE_length
          rw [List.getElem?_append_right (by omega), lu] at e
          have e' : (env ++ pe)[i]? = some sl := by rw [List.getElem?_append_right (by omega)]; exact e
          obtain ⟨p', d2, o, f1, _, f2, _⟩ := (S.slot i sl _ e' z).held m
          cases f1
          rw [hp] at f2
          cases f2
      refine ⟨by simp only [List.length_append, List.length_cons, List.length_nil] at ln ⊢; omega, S2.same, fun i sl ov g1 g2 => ?_, fun i i' p' sl sl' ne g1 g2 m1 m2 g3 g4 => ?_, S2.anc, S2.iob, S2.ioh, S2.tab⟩
      · rcases getE_snoc g1 with ⟨hi, g1⟩ | ⟨hi, rfl⟩
        · rw [List.getElem?_append_left (by rw [ln]; exact hi)] at g2
          exact S2.slot i sl ov g1 g2
        · rw [hi, ← ln] at g2
          have : ov = some (.ref p) := by simpa using g2.symm
          subst this
          exact .ow (by rw [B2N p nL]; exact b) a0 c2
      · rcases getE_snoc g1 with ⟨hi, g1⟩ | ⟨hi, rfl⟩
        · rw [List.getElem?_append_left (by rw [ln]; exact hi)] at g3
          rcases getE_snoc g2 with ⟨hi', g2⟩ | ⟨hi', rfl⟩
          · rw [List.getElem?_append_left (by rw [ln]; exact hi')] at g4
            exact S2.inj i i' p' sl sl' ne g1 g2 m1 m2 g3 g4
          · rw [hi', ← ln] at g4
            have : V.ref p = V.ref p' := by simpa using g4
            cases this
            exact no i sl g1 m1 g3
        · rw [hi, ← ln] at g3
          have : V.ref p = V.ref p' := by simpa using g3
          cases this
          rcases getE_snoc g2 with ⟨hi', g2⟩ | ⟨hi', rfl⟩
          · rw [List.getElem?_append_left (by rw [ln]; exact hi')] at g4
            exact no i' sl' g2 m2 g4
          · exact ne (hi.trans hi'.symm)
end
end PD
namespace PD
variable [PD.TabL]
open PySem PySem.Spec PyProof.Rows L2

structure G0 where
  P : Program
  w : World
  K : PySem.W.Frag
  mg : Str → Option Value
  base : Heap
structure Ct where
  N : List Str
  sc : Scope
  fb : Str → Bool
  k : Nat
  /-- the def and its code object, where they matter -/
  dn : Option (Str × Value)
structure Cok (g : G0) (c : Ct) (X : Cx) : Prop where
  eP : X.prog = g.P
  ew : X.w = g.w
  eK : X.K = g.K
  em : X.mg = g.mg
  eb : X.base = g.base
  eN : X.N = c.N
  es : X.env.scope = c.sc
  calm : X.calm = true
  nd : X.N.Nodup
  fn : ∀ x, c.fb x = true → X.fn x = true
  room : Room c.k X.A
  gu : X.A.guards = some []
  xe : X.xe = fun _ _ => False
  ec : ∀ x cd, c.dn = some (x, cd) → X.env.code = cd ∧ X.env.qual = x ++ ".<locals>."
def Ct.blk (c : Ct) (scope : Scope) : Ct := ⟨c.N, relS scope c.sc, fun x => scope.names.lookup x == some .cell, c.k, none⟩
theorem Cok.blk {g : G0} {c : Ct} {X : Cx} (h : Cok g c X) (scope : Scope) (s : Shared) (H : Hp) (C : Addr) (cl : List (Str × Addr)) (fp : List Addr) :
    Cok g (c.blk scope) (X.blk s H scope (compEnvC scope cl C X.env) fp) := by
  refine ⟨h.eP, h.ew, h.eK, h.em, h.eb, h.eN, ?_, h.calm, h.nd, fun _ z => z, h.room, h.gu, rfl, fun _ _ z => nomatch z⟩
  show (compEnvC scope cl C X.env).scope = relS scope c.sc
  rw [← h.es]
  rfl

section
variable (g : G0) (c : Ct)
/-- the expression e does m -/
def EE (e : Expr) (m : M Vl) : Prop := ∃ t, (∀ X, Cok g c X → PE X e t) ∧ ∀ A, SEX g.K A t m
def ET (e : Expr) (m : M Bool) : Prop := ∃ t, (∀ X, Cok g c X → PT X e t) ∧ ∀ A, STX g.K A t m
def EW (e : Expr) (m : M Bool) : Prop := ∃ t, (∀ X, Cok g c X → PW X e t) ∧ ∀ A, STX g.K A t m
def EA (es : List Expr) (m : M (List Vl)) : Prop := ∃ t, (∀ X, Cok g c X → PA X es t) ∧ ∀ A, SAX g.K A t m
def EG (e : Expr) (ts : List Nat) (m : Vl → M Unit) : Prop := ∃ t, (∀ X, Cok g c X → PG X e t) ∧ ∀ A, SGX g.K A ts t m
def EGs (es : List Expr) (ts : List Nat) (m : List D → M Unit) : Prop := ∃ t, (∀ X, Cok g c X → PGs X es t) ∧ ∀ A, SGsX g.K A ts t m
def EI (tg e : Expr) (m : M (List D)) : Prop := ∃ t, (∀ X, Cok g c X → PI X tg e t) ∧ ∀ A, SIX g.K A t m
def ES (s : Stmt) (m : SM) : Prop := ∃ t, (∀ X, Cok g c X → PS X s t) ∧ ∀ A, SSX g.K A t m
def ESs (s : List Stmt) (m : SM) : Prop := ∃ t, (∀ X, Cok g c X → PSs X s t) ∧ ∀ A, SSX g.K A t m
end
/-- not starred -/
def Pl (e : Expr) : Prop := ∀ (es : List Expr) (env : PySem.Env), starEach (e :: es) env = (false, eval e env) :: starEach es env

section
variable {g : G0} {c : Ct} {e a b : Expr} {es : List Expr} {pos p : Pos} {m ma mb : M Vl} {ms : M (List Vl)} {mt mu : M Bool}
theorem ea_nil : EA g c [] cN := ⟨_, fun _ _ => pa_nil, fun _ => sa_nil⟩
theorem ea_cons (h : EE g c e m) (hs : EA g c es ms) (pl : Pl e) : EA g c (e :: es) (cA m ms) := by
  obtain ⟨t, h1, h2⟩ := h
  obtain ⟨u, h3, h4⟩ := hs
  exact ⟨_, fun X hX => pa_cons (h1 X hX) (h3 X hX) (pl es X.env), fun A => sa_cons (h2 A) (h4 A)⟩
theorem ee_var {i : Nat} {x : Str} (hN : c.N[i]? = some x) (hv : Vis c.sc x) (hd : (x == ("__debug__" : Str)) = false) (hcd : (x == ("__classdict__" : Str)) = false) : EE g c (.Name x pos) (eV i) :=
  ⟨_, fun X hX => pe_var (by rw [hX.eN]; exact hN) (by rw [hX.es]; exact hv) hd hcd, fun _ => sx_var⟩
theorem ee_int {i : Int} {j} : EE g c (.Constant (.int i) j pos) (eC (.int i)) := ⟨_, fun _ _ => pe_int, fun _ => sx_con fun _ => .int i⟩
theorem ee_bl {v : Bool} {j} : EE g c (.Constant (.bool v) j pos) (eC (.bl v)) := ⟨_, fun _ _ => pe_bl, fun _ => sx_con fun _ => .bl v⟩
theorem ee_non {j} : EE g c (.Constant .none j pos) (eC .non) := ⟨_, fun _ _ => pe_non, fun _ => sx_con fun _ => .non⟩
theorem ee_str {x : Str} {j} (h : PyData.strOk x = true) : EE g c (.Constant (.str x) j pos) (eC (.str x)) := ⟨_, fun _ _ => pe_str, fun _ => sx_con fun _ => .str x h⟩
/-- a global name of the def -/
def GlC (c : Ct) (x : Str) : Prop := c.sc.names.lookup x = some .globalImplicit
theorem gl_of {X : Cx} {x : Str} (hX : Cok g c X) (h : GlC c x) : Gl X x := by
  show X.env.scope.names.lookup x = _
  rw [hX.es]
  exact h
theorem et_val (h : EE g c e m) (he : ∀ (env : PySem.Env) whole, isTrue e env whole = (do let v ← whole; standAt e.pos; holding [v] (truthy v))) : ET g c e (mB m) := by
  obtain ⟨t, h1, h2⟩ := h
  exact ⟨_, fun X hX => pt_val (h1 X hX) (he X.env), fun A => st_val (h2 A)⟩
theorem et_not (h : ET g c e mt) : ET g c (.UnaryOp .Not e pos) (mNot mt) := by
  obtain ⟨t, h1, h2⟩ := h
  exact ⟨_, fun X hX => pt_not (h1 X hX), fun A => st_not (h2 A)⟩
theorem et_w (h : EW g c e mt) : ET g c e mt := by
  obtain ⟨t, h1, h2⟩ := h
  exact ⟨t, fun X hX => (h1 X hX).pt, h2⟩
theorem ew_and1 (h : ET g c e mt) : EW g c (.BoolOp .And [e] pos) mt := by
  obtain ⟨t, h1, h2⟩ := h
  exact ⟨_, fun X hX => pw_and1 (h1 X hX), h2⟩
theorem ew_or1 (h : ET g c e mt) : EW g c (.BoolOp .Or [e] pos) mt := by
  obtain ⟨t, h1, h2⟩ := h
  exact ⟨_, fun X hX => pw_or1 (h1 X hX), h2⟩
theorem ew_and (h : ET g c a mt) (h' : EW g c (.BoolOp .And (b :: es) pos) mu) : EW g c (.BoolOp .And (a :: b :: es) pos) (mAnd mt mu) := by
  obtain ⟨t, h1, h2⟩ := h
  obtain ⟨u, h3, h4⟩ := h'
  exact ⟨_, fun X hX => pw_and (h1 X hX) (h3 X hX), fun A => st_and (h2 A) (h4 A)⟩
theorem ew_or (h : ET g c a mt) (h' : EW g c (.BoolOp .Or (b :: es) pos) mu) : EW g c (.BoolOp .Or (a :: b :: es) pos) (mOr mt mu) := by
  obtain ⟨t, h1, h2⟩ := h
  obtain ⟨u, h3, h4⟩ := h'
  exact ⟨_, fun X hX => pw_or (h1 X hX) (h3 X hX), fun A => st_or (h2 A) (h4 A)⟩
theorem ee_one {op} (h : EE g c e m) : EE g c (.BoolOp op [e] pos) m := by
  obtain ⟨t, h1, h2⟩ := h
  exact ⟨_, fun X hX => pe_one (h1 X hX), h2⟩
theorem ee_and (h : EE g c a ma) (h' : EE g c (.BoolOp .And (b :: es) pos) mb) : EE g c (.BoolOp .And (a :: b :: es) pos) (eAnd ma mb) := by
  obtain ⟨t, h1, h2⟩ := h
  obtain ⟨u, h3, h4⟩ := h'
  exact ⟨_, fun X hX => pe_and (h1 X hX) (h3 X hX), fun A => sx_and (h2 A) (h4 A)⟩
theorem ee_if (hc : ET g c e mt) (h : EE g c a ma) (h' : EE g c b mb) : EE g c (.IfExp e a b pos) (eIf mt ma mb) := by
  obtain ⟨t, h1, h2⟩ := hc
  obtain ⟨u, h3, h4⟩ := h
  obtain ⟨v, h5, h6⟩ := h'
  exact ⟨_, fun X hX => pe_ifExp (h1 X hX) (h3 X hX) (h5 X hX), fun A => sx_if (h2 A) (h4 A) (h6 A)⟩
theorem ee_tup {x1} (h : EA g c es ms) : EE g c (.Tuple es x1 pos) (eTup ms) := by
  obtain ⟨t, h1, h2⟩ := h
  exact ⟨_, fun X hX => pe_tup (h1 X hX), fun A => sx_tup (h2 A)⟩
theorem ee_lst (h : EA g c es ms) : EE g c (.List es pos) (eLst ms) := by
  obtain ⟨t, h1, h2⟩ := h
  exact ⟨_, fun X hX => pe_lst (h1 X hX), fun A => sx_lst (h2 A)⟩

def OpI (g : G0) (op : Value → Value → Sem Value) (f : List D → Option Vl) : Prop := ∃ r : R2, (∀ c X, Cok g c X → OpR X op r) ∧ PrS g.K (on2 r) f
theorem ee_bin {op : Operator} {f : List D → Option Vl} (ho : OpI g (binaryOp op) f) (h : EE g c a ma) (h' : EE g c b mb) : EE g c (.BinOp a op b pos) (eP f (cA ma (cA mb cN))) := by
  obtain ⟨r, o1, o2⟩ := ho
  obtain ⟨t, h1, h2⟩ := h
  obtain ⟨u, h3, h4⟩ := h'
  exact ⟨_, fun X hX => pe_op (o1 c X hX) (h1 X hX) (h3 X hX), fun A => sx_op o2 (h2 A) (h4 A)⟩
theorem ee_cmp {op : CmpOp} {f : List D → Option Vl} (ho : OpI g (compareOp op) f) (h : EE g c a ma) (h' : EE g c b mb) (hm : behindInMarks op b = false) : EE g c (.Compare a [op] [b] pos) (eP f (cA ma (cA mb cN))) := by
  obtain ⟨r, o1, o2⟩ := ho
  obtain ⟨t, h1, h2⟩ := h
  obtain ⟨u, h3, h4⟩ := h'
  exact ⟨_, fun X hX => pe_cmpR (o1 c X hX) (h1 X hX) (h3 X hX) hm, fun A => sx_op o2 (h2 A) (h4 A)⟩
def UnI (g : G0) (op : Value → Sem Value) (f : List D → Option Vl) : Prop := ∃ r : V → Hp → VK → Prop, (∀ c X, Cok g c X → UnR X op r) ∧ PrS g.K (on1 r) f
theorem ee_un {op : UnaryOp} {f : List D → Option Vl} (ho : UnI g (unaryOp op) f) (h : EE g c a ma) : EE g c (.UnaryOp op a pos) (eP f (cA ma cN)) := by
  obtain ⟨r, o1, o2⟩ := ho
  obtain ⟨t, h1, h2⟩ := h
  exact ⟨_, fun X hX => pe_un (o1 c X hX) (h1 X hX), fun A => sx_un o2 (h2 A)⟩
def CaI (g : G0) (f : Value) (d : List D → Option Vl) : Prop := ∃ r : List V → Hp → VK → Prop, (∀ c X, Cok g c X → CallR X f r) ∧ PrS g.K r d
theorem ee_callB {x : Str} {id : String} {d : List D → Option Vl} (ho : CaI g (.builtin id) d) (hg : GlC c x) (hm : g.mg x = none) (hv : bootBuiltins x = some (.builtin id)) (h : EA g c (e :: es) ms) (pl : Pl e)
    (hpl : ∀ env : PySem.Env, (backTo pos (starEach es env)).any (·.1) = false) (hn : x ≠ "__name__") (hdb : (x == ("__debug__" : Str)) = false) : EE g c (.Call (.Name x p) (e :: es) [] pos) (eP d ms) := by
  obtain ⟨r, o1, o2⟩ := ho
  obtain ⟨t, h1, h2⟩ := h
  exact ⟨_, fun X hX => pe_callB (o1 c X hX) (gl_of hX hg) (by rw [hX.em]; exact hm) hv (h1 X hX) hn hdb (pl es X.env) (hpl X.env), fun A => sx_prim o2 (h2 A)⟩
theorem ee_callTy {x : Str} {T : String} {d : List D → Option Vl} (ho : CaI g (.type T) d) (hg : GlC c x) (hm : g.mg x = none) (hv : bootBuiltins x = some (.type T)) (h : EA g c (e :: es) ms) (pl : Pl e)
    (hpl : ∀ env : PySem.Env, (backTo pos (starEach es env)).any (·.1) = false) (hn : x ≠ "__name__") (hdb : (x == ("__debug__" : Str)) = false) : EE g c (.Call (.Name x p) (e :: es) [] pos) (eP d ms) := by
  obtain ⟨r, o1, o2⟩ := ho
  obtain ⟨t, h1, h2⟩ := h
  exact ⟨_, fun X hX => pe_callTy (o1 c X hX) (gl_of hX hg) (by rw [hX.em]; exact hm) hv (h1 X hX) hn hdb (pl es X.env) (hpl X.env), fun A => sx_prim o2 (h2 A)⟩

theorem es_nil : ESs g c [] sNil := ⟨_, fun _ _ => pss_nil, fun _ => ss_nil⟩
theorem es_cons {s : Stmt} {r : List Stmt} {m n : SM} (h : ES g c s m) (h' : ESs g c r n) : ESs g c (s :: r) (sSeq m n) := by
  obtain ⟨t, h1, h2⟩ := h
  obtain ⟨u, h3, h4⟩ := h'
  exact ⟨_, fun X hX => pss_cons (h1 X hX) (h3 X hX), fun A => ss_seq (h2 A) (h4 A)⟩
theorem es_ret (h : EE g c e m) : ES g c (.Return (some e) pos) (sRet m) := by
  obtain ⟨t, h1, h2⟩ := h
  exact ⟨_, fun X hX => ps_ret (h1 X hX), fun A => ss_ret (h2 A)⟩
theorem es_exp (h : EE g c e m) (hs : ∀ env : PySem.Env, swapsWith e none pos.line env = pure false) : ES g c (.Expr e pos) (sExp m) := by
  obtain ⟨t, h1, h2⟩ := h
  exact ⟨_, fun X hX => ps_expr (h1 X hX) (hs X.env), fun A => ss_exp (h2 A)⟩
theorem es_if {s r : List Stmt} {m n : SM} (hc : ET g c e mt) (h : ESs g c s m) (h' : ESs g c r n) : ES g c (.If e s r pos) (sIf mt m n) := by
  obtain ⟨t, h1, h2⟩ := hc
  obtain ⟨u, h3, h4⟩ := h
  obtain ⟨v, h5, h6⟩ := h'
  exact ⟨_, fun X hX => ps_if (h1 X hX) (h3 X hX) (h5 X hX), fun A => ss_if (h2 A) (h4 A) (h6 A)⟩
theorem pown {X : Cx} (hX : Cok g c X) : PassesOwn (model X.prog X.w) X.A X.env X.xe := by
  rw [hX.xe]
  exact PassesOwn.never
theorem es_for {tg : Expr} {s : List Stmt} {ts : List Nat} {mi : M (List D)} {gg : Vl → M Unit} {m : SM} (hi : EI g c tg e mi) (hg : EG g c tg ts gg) (h : ESs g c s m) (hs : ∀ (env : PySem.Env) x, foldedSetIterable e env x = pure x) :
    ES g c (.For tg e s [] pos) (sFor mi gg m) := by
  obtain ⟨t, h1, h2⟩ := hi
  obtain ⟨u, h3, h4⟩ := hg
  obtain ⟨v, h5, h6⟩ := h
  exact ⟨_, fun X hX => ps_for (pown hX) hX.calm (h1 X hX) (h3 X hX) (h5 X hX) (hs X.env), fun A => ss_for (h2 A) (h4 A) (h6 A)⟩
theorem eg_name {i : Nat} {x : Str} (hN : c.N[i]? = some x) (hv : Loc c.sc x) (hf : c.fb x = true ∨ c.sc.names.lookup x = some .local) : EG g c (.Name x pos) [i] (gN i) :=
  ⟨_, fun X hX => pg_name hX.nd (by rw [hX.eN]; exact hN) (by rw [hX.es]; exact hv) (hf.elim (fun z => .inl (hX.fn x z)) fun z => .inr (by rw [hX.es]; exact z)), fun _ => sg_name⟩
theorem egs_nil : EGs g c [] [] gsN := ⟨_, fun _ _ => pgs_nil, fun _ => sgs_nil⟩
theorem egs_cons {ts us : List Nat} {gg : Vl → M Unit} {gs : List D → M Unit} (h : EG g c e ts gg) (h' : EGs g c es us gs) (hs : ∀ env : PySem.Env, (assignEach (e :: es) env).map (·.2) = assign e env :: (assignEach es env).map (·.2)) : EGs g c (e :: es) (ts ++ us) (gsC gg gs) := by
  obtain ⟨t, h1, h2⟩ := h
  obtain ⟨u, h3, h4⟩ := h'
  exact ⟨_, fun X hX => pgs_cons (h1 X hX) (h3 X hX) (hs X.env), fun A => sgs_cons (h2 A) (h4 A)⟩
theorem eg_tup {ts : List Nat} {gs : List D → M Unit} {k n : Nat} (h : EGs g c es ts gs) (hn : ∀ env : PySem.Env, (assignEach es env).length = n) (hst : ∀ env : PySem.Env, (assignEach es env).findIdx? (·.1) = none) : EG g c (.Tuple es k pos) ts (gT n gs) := by
  obtain ⟨t, h1, h2⟩ := h
  exact ⟨gTup g.K n t, fun X hX => by rw [← hX.eK]; exact pg_tup hX.calm (h1 X hX) (hn X.env) (hst X.env), fun A => sg_tup (h2 A)⟩
/-- name = value -/
theorem es_set {i : Nat} {x : Str} {pos' : Pos} (hN : c.N[i]? = some x) (hv : Loc c.sc x) (h : EE g c e m) (hs : ∀ env : PySem.Env, swapsWith e (some (.Name x pos')) pos.line env = pure false) (hf : c.fb x = true ∨ c.sc.names.lookup x = some .local) :
    ES g c (.Assign [.Name x pos'] e pos) (sAsg m (gN i)) := by
  obtain ⟨t, h1, h2⟩ := h
  exact ⟨_, fun X hX => ps_set hX.nd (by rw [hX.eN]; exact hN) (by rw [hX.es]; exact hv) (h1 X hX) (hs X.env) (hf.elim (fun z => .inl (hX.fn x z)) fun z => .inr (by rw [hX.es]; exact z)), fun A => ss_asg (h2 A) sg_name⟩
theorem es_asg {tg : Expr} {ts : List Nat} {gg : Vl → M Unit} (h : EE g c e m) (h' : EG g c tg ts gg) (hs : ∀ env : PySem.Env, swapsWithSole [tg] e pos.line env = pure false) (hw : ∀ env : PySem.Env, env.scope = c.sc → swappedStores [tg] e env = pure none)
    (h1 : ∀ env : PySem.Env, (assignEach [tg] env).map (·.2) = [assign tg env]) : ES g c (.Assign [tg] e pos) (sAsg m gg) := by
  obtain ⟨t, h2, h3⟩ := h
  obtain ⟨u, h4, h5⟩ := h'
  exact ⟨_, fun X hX => ps_asg (h2 X hX) (h4 X hX) (hs X.env) (hw X.env hX.es) (h1 X.env), fun A => ss_asg (h3 A) (h5 A)⟩

def mLst (m : M Vl) : M (List D) := bd m fun r => bd (frz r.hold) fun d => match d with
  | .lst ds => rt ds
  | _ => fun _ => none
def mTup (m : M Vl) : M (List D) := bd m fun r => bd (frz r.hold) fun d => match d with
  | .tup ds => rt ds
  | .tp ds => rt ds
  | _ => fun _ => none
theorem wd_list {K : PySem.W.Frag} {B0 : Hp} {a : Addr} {xs : List V} {ds : List D} (h : SqL K B0 a xs) (r : Rps K B0 ds xs) : WD K (Itl K a) B0 ds := by
  have hl := r.length
  refine ⟨fun i H B hi s1 s2 => walk_list.goes i H (by omega) (sameL s2 (sameL s1 h)), fun H B s1 s2 => ?_, fun i H B x H' hi s1 s2 y => ?_⟩
  · rw [hl]
    exact walk_list.stops H (sameL s2 (sameL s1 h))
  · obtain ⟨e1, e2⟩ := walk_list.yields i H x H' (by omega) (sameL s2 (sameL s1 h)) y
    obtain ⟨d, h1, h2⟩ := r.getV e2
    exact ⟨d, h1, .inl ⟨e1, h2.mono s1⟩⟩
theorem wd_tup {K : PySem.W.Frag} {B0 : Hp} {a : Addr} {xs : List V} {ds : List D} (h : SqT K B0 a xs) (r : Rps K B0 ds xs) : WD K (Itt K a) B0 ds := by
  have hl := r.length
  refine ⟨fun i H B hi s1 s2 => walk_tup.goes i H (by omega) (sameT s2 (sameT s1 h)), fun H B s1 s2 => ?_, fun i H B x H' hi s1 s2 y => ?_⟩
  · rw [hl]
    exact walk_tup.stops H (sameT s2 (sameT s1 h))
  · obtain ⟨e1, e2⟩ := walk_tup.yields i H x H' (by omega) (sameT s2 (sameT s1 h)) y
    obtain ⟨d, h1, h2⟩ := r.getV e2
    exact ⟨d, h1, .inl ⟨e1, h2.mono s1⟩⟩
theorem si_list {K : PySem.W.Frag} {A : Anc} {t : TE} (h : SEX K A t m) : SIX K A (iList K t) (mLst m) := fun σ τ B H env pe env' ds R S hl e q => by
  obtain ⟨r, e1, he, e⟩ := bd_inv e
  obtain ⟨d, e2, hf, e⟩ := bd_inv e
  split at e
  · rename_i ds'
    cases e
    refine h σ τ B H env pe e1 r _ S hl he fun B1 H1 v s1 hl1 hv => ?_
    obtain ⟨B2, s2, S2, hh⟩ := hv.held
    obtain ⟨B3, s3, S3, hl3, rr⟩ := frz_ok S2 hl1 hh hf
    cases rr with
    | @lst a xs _ hs r2 => exact ⟨a, rfl, ⟨xs, .of (S3.same _ _ hs)⟩, q B3 H1 _ ((s1.trans s2).trans s3) hl3 S3 (wd_list (.of hs) r2)⟩
  · cases e
theorem si_tup {K : PySem.W.Frag} {A : Anc} {t : TE} (h : SEX K A t m) : SIX K A (iTup K t) (mTup m) := fun σ τ B H env pe env' ds R S hl e q => by
  obtain ⟨r, e1, he, e⟩ := bd_inv e
  obtain ⟨d, e2, hf, e⟩ := bd_inv e
  split at e
  · rename_i ds'
    cases e
    refine h σ τ B H env pe e1 r _ S hl he fun B1 H1 v s1 hl1 hv => ?_
    obtain ⟨B2, s2, S2, hh⟩ := hv.held
    obtain ⟨B3, s3, S3, hl3, rr⟩ := frz_ok S2 hl1 hh hf
    cases rr with
    | @tup a xs _ hs r2 => exact ⟨a, rfl, ⟨xs, (hs.same S3.same).sq⟩, q B3 H1 _ ((s1.trans s2).trans s3) hl3 S3 (wd_tup hs.sq r2)⟩
  · rename_i ds'
    cases e
    refine h σ τ B H env pe e1 r _ S hl he fun B1 H1 v s1 hl1 hv => ?_
    obtain ⟨B2, s2, S2, hh⟩ := hv.held
    obtain ⟨B3, s3, S3, hl3, rr⟩ := frz_ok S2 hl1 hh hf
    cases rr with
    | @tp a o xs _ hs _ r2 => exact ⟨a, rfl, ⟨xs, .inl (.inr ⟨_, S3.same _ _ hs⟩)⟩, q B3 H1 _ ((s1.trans s2).trans s3) hl3 S3 (wd_tup (.inl (.inr ⟨_, hs⟩)) r2)⟩
  · cases e
theorem ei_list {tg : Expr} (h : EE g c e m) : EI g c tg e (mLst m) := by
  obtain ⟨t, h1, h2⟩ := h
  exact ⟨iList g.K t, fun X hX => by rw [← hX.eK]; exact pi_list (h1 X hX), fun A => si_list (h2 A)⟩
theorem ei_tup {tg : Expr} (h : EE g c e m) : EI g c tg e (mTup m) := by
  obtain ⟨t, h1, h2⟩ := h
  exact ⟨iTup g.K t, fun X hX => by rw [← hX.eK]; exact pi_tup (h1 X hX), fun A => si_tup (h2 A)⟩
/-- ranges -/
def rngD (lo : Int) (n : Nat) : List D := (List.range n).map fun i : Nat => D.int (lo + (i : Int))
theorem wd_range {K : PySem.W.Frag} {B0 : Hp} {lo : Int} {n : Nat} : WD K (Itr lo n) B0 (rngD lo n) := by
  have hl : (rngD lo n).length = n := by simp [rngD]
  refine ⟨fun i H B hi _ _ => ?_, fun H B _ _ => ?_, fun i H B x H' hi _ _ y => ?_⟩
  · show i < n
    omega
  · show n ≤ (rngD lo n).length
    omega
  · obtain ⟨e1, e2⟩ := y
    refine ⟨.int (lo + (i : Int)), ?_, .inl ⟨e1, by rw [e2]; exact .int _⟩⟩
    rw [hl] at hi
    simp [rngD, hi]
def in62 (i : Int) : Bool := decide (-(2 ^ 62) ≤ i) && decide (i < 2 ^ 62)
def mR1 (ms : M (List Vl)) : M (List D) := bd ms fun rs e => match cnts e rs with
  | some [.int j] => if in62 j = true then some (rngD 0 j.toNat, e) else none
  | _ => none
def mR2 (ms : M (List Vl)) : M (List D) := bd ms fun rs e => match cnts e rs with
  | some [.int i, .int j] => if (in62 i && in62 j) = true then some (rngD i (j - i).toNat, e) else none
  | _ => none
theorem in62_ok {i : Int} (h : in62 i = true) : -(2 ^ 62) ≤ i ∧ i < 2 ^ 62 := by
  have h : decide (-(2 ^ 62) ≤ i) = true ∧ decide (i < 2 ^ 62) = true := by simpa [in62] using h
  exact ⟨of_decide_eq_true h.1, of_decide_eq_true h.2⟩
theorem si_r1 {K : PySem.W.Frag} {A : Anc} {t : TA} (h : SAX K A t ms) : SIX K A (iRng1 t) (mR1 ms) := fun σ τ B H env pe env' ds R S hl e q => by
  obtain ⟨rs, e1, he, e⟩ := bd_inv e
  split at e
  · rename_i j hc
    split at e
    · rename_i hj
      cases e
      refine h σ τ B H env pe _ rs _ S hl he fun B1 H1 vs s1 hl1 S1 hr => ?_
      have rr := Hv.rrs S1 hl1 hr hc
      cases rr with
      | cons r1 r2 =>
        cases r2
        obtain ⟨h1, h2⟩ := in62_ok hj
        rw [r1.int]
        exact ⟨j, rfl, h1, h2, q B1 H1 _ s1 hl1 S1 wd_range⟩
    · cases e
  · cases e
theorem ei_r1 {tg : Expr} (hg : GlC c "range") (hm : g.mg "range" = none) (h : EA g c [a] ms) (pl : Pl a) : EI g c tg (.Call (.Name "range" p) [a] [] pos) (mR1 ms) := by
  obtain ⟨t, h1, h2⟩ := h
  exact ⟨_, fun X hX => pi_range1 (gl_of hX hg) (by rw [hX.em]; exact hm) (h1 X hX) (by rw [pl [] X.env]; rfl), fun A => si_r1 (h2 A)⟩
def EPTs (g : G0) (c : Ct) (es : List Expr) (m : M Bool) : Prop := ∃ t, (∀ X, Cok g c X → PTs X es t) ∧ ∀ A, STX g.K A t m
theorem ep_nil : EPTs g c [] (rt true) := ⟨_, fun _ _ => pts_nil, fun A σ τ B H env pe env' b Q S hl e q => by
  cases e
  exact q B H (Same.refl _) hl S⟩
theorem ep_one (h : ET g c e mt) : EPTs g c [e] mt := by
  obtain ⟨t, h1, h2⟩ := h
  exact ⟨_, fun X hX => pts_one (h1 X hX), h2⟩
theorem ee_comp {elt tg iter : Expr} {ifs : List Expr} {scope : Scope} {own : List (Str × Nat)} {ts : List Nat} {mi : M (List D)} {gg : Vl → M Unit} {me : M Vl} (ok : blkC c.N c.sc scope own = true) (nd : (own.map (·.2)).Nodup) (ht : ∀ i ∈ ts, i ∈ own.map (·.2))
    (hi : EI g c tg iter mi) (hg : EG g (c.blk scope) tg ts gg) (hc : EPTs g (c.blk scope) ifs mt) (he : EE g (c.blk scope) elt me) (hs : ∀ (env : PySem.Env) x, foldedSetIterable iter env x = pure x) :
    EE g c (.ListComp elt [⟨tg, iter, ifs, 0⟩] scope pos) (eComp (own.map (·.2)) mi gg mt me) := by
  obtain ⟨t1, h1, k1⟩ := hi
  obtain ⟨t2, h2, k2⟩ := hg
  obtain ⟨t3, h3, k3⟩ := hc
  obtain ⟨t4, h4, k4⟩ := he
  refine ⟨_, fun X hX => pe_lc hX.calm hX.nd (h1 X hX) (blkOk_by (by rw [hX.eN, hX.es]; exact ok)) (fun s H C cl fp => h2 _ (hX.blk scope s H C cl fp)) (fun s H C cl fp => h3 _ (hX.blk scope s H C cl fp)) (fun s H C cl fp => h4 _ (hX.blk scope s H C cl fp)) (hs X.env), fun A => sx_comp nd ht (k1 A) (k2 A) (k3 A) (k4 A)⟩
/-- y = [..] where the store is done within the comprehension's frame -/
theorem es_setLc {i : Nat} {y : Str} {py : Pos} {elt tg iter : Expr} {ifs : List Expr} {scope : Scope} {own : List (Str × Nat)} {spos : Pos} {ts : List Nat} {mi : M (List D)} {gg : Vl → M Unit} {me : M Vl} (hy : c.N[i]? = some y) (hyl : c.sc.names.lookup y = some .local)
    (hsw : ∀ env : PySem.Env, env.scope = c.sc → swapsWith (.ListComp elt [⟨tg, iter, ifs, 0⟩] scope pos) (some (.Name y py)) spos.line env = pure true)
    (ok : blkC c.N c.sc scope own = true) (nd : (own.map (·.2)).Nodup) (ht : ∀ i ∈ ts, i ∈ own.map (·.2)) (hi : EI g c tg iter mi) (hg : EG g (c.blk scope) tg ts gg) (hc : EPTs g (c.blk scope) ifs mt) (he : EE g (c.blk scope) elt me)
    (hs : ∀ (env : PySem.Env) x, foldedSetIterable iter env x = pure x) :
    ES g c (.Assign [.Name y py] (.ListComp elt [⟨tg, iter, ifs, 0⟩] scope pos) spos) (sAsg (eComp (own.map (·.2)) mi gg mt me) (gN i)) := by
  obtain ⟨t1, h1, k1⟩ := hi
  obtain ⟨t2, h2, k2⟩ := hg
  obtain ⟨t3, h3, k3⟩ := hc
  obtain ⟨t4, h4, k4⟩ := he
  refine ⟨_, fun X hX => ps_setLc hX.calm hX.nd (by rw [hX.eN]; exact hy) (by rw [hX.es]; exact hyl) (hsw X.env hX.es) (h1 X hX) (blkOk_by (by rw [hX.eN, hX.es]; exact ok)) (fun s H C cl fp => h2 _ (hX.blk scope s H C cl fp)) (fun s H C cl fp => h3 _ (hX.blk scope s H C cl fp)) (fun s H C cl fp => h4 _ (hX.blk scope s H C cl fp)) (hs X.env), fun A => ss_asg (sx_comp nd ht (k1 A) (k2 A) (k3 A) (k4 A)) sg_name⟩
end
end PD
namespace PD
variable [PD.TabL]
open PySem PySem.Spec PyProof.Rows L2

structure FnG (g : G0) (k : Nat) (f : Addr) (fd : FuncData) (ps : List Str) (sp : Sp) : Prop where
  len : ∀ vs H Q, sp vs H Q E0 → vs.length = ps.length
  run : ∀ (A : Around) (outer : List PySem.Env) (s : Shared) (H : Hp) (args : Args) (us : List Value) (vs : List V) (Q : VK), Room k A → A.guards = some [] → Env0 g.P g.w g.K g.mg g.base A outer s H →
    BindsTo s fd args (ps.zip us) → Vals vs us → sp vs H Q E0 → codeAny (model g.P g.w) A (.call (.ref f) args) (CR CX0 outer g.P g.w H s Q E0) s

/-- the def x stands in the text and does F -/
structure FnI (g : G0) (x : Str) (k : Nat) (F : Fs) : Prop where
  ex : ∃ (f : Addr) (fd : FuncData) (ps : List Str), g.mg x = some (.ref f) ∧ PySem.W.keepIn g.K (.ref f) = true ∧ Binds g.K fd ps [] ∧ FnG g k f fd ps (spF g.K F)
theorem FnI.mono {g : G0} {x : Str} {j k : Nat} {F : Fs} (h : FnI g x j F) (hj : j ≤ k) : FnI g x k F := by
  obtain ⟨f, fd, ps, h1, h2, h3, h4⟩ := h.ex
  exact ⟨f, fd, ps, h1, h2, h3, ⟨h4.len, fun A outer s H args us vs Q hr => h4.run A outer s H args us vs Q (hr.mono hj)⟩⟩

def nmOut : List Bool → List D → Bool
  | true :: bs, d :: ds => d.nmC && nmOut bs ds
  | false :: bs, _ :: ds => nmOut bs ds
  | _, _ => true
theorem nmOut_at : ∀ {sig : List Bool} {ds : List D} {j : Nat} {d : D}, nmOut sig ds = true → sig[j]? = some true → ds[j]? = some d → d.nmC = true
  | [], _, _, _, _, h, _ => by simp at h
  | _ :: _, [], _, _, _, _, h => by simp at h
  | b :: bs, d :: ds, 0, _, h, h1, h2 => by
    simp at h1 h2
    subst h1 h2
    have h : d.nmC = true ∧ nmOut bs ds = true := by simpa [nmOut] using h
    exact h.1
  | b :: bs, d :: ds, j + 1, d', h, h1, h2 => by
    refine nmOut_at (sig := bs) (ds := ds) (j := j) ?_ (by simpa using h1) (by simpa using h2)
    cases b with
    | true =>
      have h : d.nmC = true ∧ nmOut bs ds = true := by simpa [nmOut] using h
      exact h.2
    | false => exact h
def disj (xs ys : List Nat) : Bool := xs.all fun i => !ys.contains i
def callE (F : Fs) (rs : List Vl) : M Vl := fun e => match cnts e rs with
  | some ds => if (ioAll e F.sig rs && decide (ioIx F.sig rs).Nodup && disj (ioIx F.sig rs) (brIx e F.sig rs)) = true then match F.sem ds with
      | some (r, ds') => if ((brIx e F.sig rs).isEmpty || (r.nm && nmOut F.sig ds')) = true then some (r, updE F.sig rs ds' e) else none
      | none => none
    else none
  | none => none
def frzA : List Bool → List Vl → M (List Vl)
  | false :: bs, .bo i :: rs => bd (frz (.bo i)) fun d => bd (frzA bs rs) fun r => rt (.im d :: r)
  | _ :: bs, v :: rs => bd (frzA bs rs) fun r => rt (v :: r)
  | _, rs => rt rs
section
variable {K : PySem.W.Frag} {A : Anc} {σ τ : L2.St} {pe : Env}
theorem callE_ok {F : Fs} {rs : List Vl} {vs : List V} {B H : Hp} {env env' : Env} {r : Vl} (S : SR K A B H (σ ++ τ) (env ++ pe)) (hl : σ.length = env.length) (hr : Paired (Hv K B σ) rs vs) (e : callE F rs env = some (r, env')) (Q : VK)
    (q : ∀ B' H' v, Same B B' → σ.length = env'.length → VR K A B' H' σ τ env' pe r v → Q v H') (E : XK) : spF K F vs H Q E := by
  unfold callE at e
  split at e
  · rename_i ds hc
    split at e
    · rename_i hk
      have hk : (ioAll env F.sig rs = true ∧ (ioIx F.sig rs).Nodup) ∧ disj (ioIx F.sig rs) (brIx env F.sig rs) = true := by simpa using hk
      split at e
      · rename_i r' ds' hf
        split at e
        · rename_i hn
          cases e
          refine call_ok S hl hr hc hk.1.1 hk.1.2 (fun i hi => ?_) hf ?_ Q (fun B' H' v s h => q B' H' v s (by rw [updE_length]; exact hl) h) E
          · have := List.all_eq_true.mp hk.2 i hi
            simpa using this
          · rcases Bool.or_eq_true_iff.mp hn with h | h
            · exact .inl (by simpa using h)
            · have h := Bool.and_eq_true_iff.mp h
              exact .inr ⟨h.1, fun j d h1 h2 => nmOut_at h.2 h1 h2⟩
        · cases e
      · cases e
    · cases e
  · cases e
theorem frzA_ok : ∀ {sig : List Bool} {rs : List Vl} {vs : List V} {B H : Hp} {env env' : Env} {rs' : List Vl}, SR K A B H (σ ++ τ) (env ++ pe) → σ.length = env.length → Paired (Hv K B σ) rs vs → frzA sig rs env = some (rs', env') →
    ∃ B', Same B B' ∧ SR K A B' H (σ ++ τ) (env' ++ pe) ∧ σ.length = env'.length ∧ Paired (Hv K B' σ) rs' vs
  | [], rs, vs, B, H, env, env', rs', S, hl, hr, e => by
    cases rs <;> (cases e; exact ⟨B, Same.refl _, S, hl, hr⟩)
  | b :: bs, [], vs, B, H, env, env', rs', S, hl, hr, e => by
    cases b <;> (cases e; exact ⟨B, Same.refl _, S, hl, hr⟩)
  | b :: bs, v :: rs, u :: vs, B, H, env, env', rs', S, hl, .cons h t, e => by
    have keep : ∀ {e' : bd (frzA bs rs) (fun r => rt (v :: r)) env = some (rs', env')}, ∃ B', Same B B' ∧ SR K A B' H (σ ++ τ) (env' ++ pe) ∧ σ.length = env'.length ∧ Paired (Hv K B' σ) rs' (u :: vs) := by
      intro e'
      obtain ⟨r1, e1, h1, h2⟩ := bd_inv e'
      cases h2
      obtain ⟨B1, s1, S1, hl1, p1⟩ := frzA_ok S hl t h1
      exact ⟨B1, s1, S1, hl1, .cons (h.mono s1) p1⟩
    cases b with
    | true => exact keep (e' := e)
    | false =>
      cases v with
      | im d => exact keep (e' := e)
      | fr d => exact keep (e' := e)
      | bo i =>
        obtain ⟨d, e1, h1, e⟩ := bd_inv e
        obtain ⟨r1, e2, h2, e⟩ := bd_inv e
        cases e
        obtain ⟨B1, s1, S1, hl1, rr⟩ := frz_ok S hl h h1
        obtain ⟨B2, s2, S2, hl2, p2⟩ := frzA_ok S1 hl1 (Paired.mapP t fun _ _ z => z.mono s1) h2
        exact ⟨B2, s1.trans s2, S2, hl2, .cons (rr.mono s2) p2⟩
end
section
variable {g : G0} {c : Ct} {e : Expr} {es : List Expr} {pos p : Pos} {ms : M (List Vl)}
theorem runG {X : Cx} {f : Addr} {fd : FuncData} {ps : List Str} {sp : Sp} {k : Nat} (hX : Cok g c X) (F : FnG g k f fd ps sp) (hk : k ≤ c.k) (hb : Binds g.K fd ps []) {pins : List (Addr × Obj)} {σ : L2.St} {H : Hp} {s : Shared} {Q : VK} {us : List Value} {vs : List V} (I : Inv X pins σ H s) (r : Vals vs us) (h : sp vs H Q E0) :
    wpAny (model X.prog X.w) X.A (call (.ref f) us) (EP X pins σ Q) X.xe s := by
  have e0 := I.env0
  rw [hX.eP, hX.ew, hX.eK, hX.em, hX.eb] at e0
  have hl : (us ++ ([] : List Value)).length = ps.length := by
    rw [List.append_nil, ← r.length]
    exact F.len _ _ _ h
  have kin : g.K.In s.heap := by
    rw [← hX.eK]
    exact I.kIn
  have hb' := hb s us kin hl
  rw [List.append_nil] at hb'
  have run := F.run X.A X.stack s H ⟨us, []⟩ us vs Q (hX.room.mono hk) hX.gu e0 hb' r h
  rw [← hX.eP, ← hX.ew] at run
  refine wpAny_call (codeAny_mono run fun r s' hq => ?_)
  cases r with
  | error e => exact hq.elim
  | ok fl =>
    cases fl with
    | ret u => exact I.after hq
    | next => exact hq.elim
    | brk => exact hq.elim
    | cont => exact hq.elim
end

def outE : List Bool → Nat → Env → List D → Option (List D)
  | b :: bs, k, e, d :: ds => match outE bs (k + 1) e ds with
    | none => none
    | some r => if b = true then match e[k]? with
        | some (.io j d') => if j = k then some (d' :: r) else none
        | _ => none
      else some (d :: r)
  | _, _, _, _ => some []
def retV (e : Env) : Vl → Option Vl
  | .im d => some (.im d)
  | .fr d => some (.fr d)
  | .bo i => match e[i]? with
    | some (.ow d) => some (.fr d)
    | some (.im d) => some (.im d)
    | _ => none
def runF (sig : List Bool) (n : Nat) (body : SM) (ds : List D) : Option (Vl × List D) :=
  if ds.length = sig.length then match body (mkE 0 sig ds ++ List.replicate (n - ds.length) .em) with
    | some (.nx, e) => match outE sig 0 e ds with
      | some o => some (.im .non, o)
      | none => none
    | some (.rt r, e) => match retV e r, outE sig 0 e ds with
      | some r', some o => some (r', o)
      | _, _ => none
    | _ => none
  else none
theorem outE_at : ∀ {sig : List Bool} {k : Nat} {e : Env} {ds o : List D}, ds.length = sig.length → outE sig k e ds = some o → o.length = ds.length ∧
    ∀ (j : Nat) (b : Bool) (d : D), sig[j]? = some b → o[j]? = some d → (b = true ∧ e[k + j]? = some (.io (k + j) d)) ∨ (b = false ∧ ds[j]? = some d)
  | [], k, e, ds, o, hl, h => by
    have : ds = [] := List.length_eq_zero_iff.mp (by simpa using hl)
    subst this
    cases h
    exact ⟨rfl, fun j b d h => by simp at h⟩
  | b :: bs, k, e, [], o, hl, h => by simp at hl
  | b :: bs, k, e, d :: ds, o, hl, h => by
    unfold outE at h
    split at h
    · cases h
    · rename_i r hr
      obtain ⟨h1, h2⟩ := outE_at (sig := bs) (k := k + 1) (by simpa using hl) hr
      split at h
      · rename_i hb
        split at h
        · rename_i j0 d' he
          split at h
          · rename_i hj
            cases h
            subst hj
            refine ⟨by simp [h1], fun j b' d2 g1 g2 => ?_⟩
            cases j with
            | zero =>
              simp at g1 g2
              subst g1 g2
              exact .inl ⟨hb, he⟩
            | succ j =>
              have := h2 j b' d2 (by simpa using g1) (by simpa using g2)
              rw [show j0 + 1 + j = j0 + (j + 1) by omega] at this
              simpa using this
          · cases h
        · cases h
      · rename_i hb
        cases h
        refine ⟨by simp [h1], fun j b' d2 g1 g2 => ?_⟩
        cases j with
        | zero =>
          simp at g1 g2
          subst g1 g2
          exact .inr ⟨by simpa using hb, rfl⟩
        | succ j =>
          have := h2 j b' d2 (by simpa using g1) (by simpa using g2)
          rw [show k + 1 + j = k + (j + 1) by omega] at this
          simpa using this
section
variable {K : PySem.W.Frag} {A : Anc}
theorem SR.ems {B H : Hp} {σ : L2.St} {env : Env} (S : SR K A B H σ env) (n : Nat) : SR K A B H (σ ++ List.replicate n none) (env ++ List.replicate n .em) := by
  refine S.sub (by simp [S.len]) id (fun _ _ _ _ _ _ _ _ h => h) (fun i sl e ne => ?_)
  by_cases hi : i < env.length
  · rw [List.getElem?_append_left hi] at e
    exact ⟨e, by rw [List.getElem?_append_left (by rw [S.len]; exact hi)]; rfl⟩
  · rw [List.getElem?_append_right (by omega), List.getElem?_replicate] at e
    split at e
    · cases e
      exact absurd rfl ne
    · cases e
/-- the parameters behind the body -/
theorem params_end {sig : List Bool} {ds o : List D} {vs : List V} {B H B1 H1 : Hp} {σ : L2.St} {env : Env} (S0 : SR K A B H (vs.map some) (mkE 0 sig ds)) (hd : ds.length = sig.length) (s : Same B B1) (S : SR K A B1 H1 σ env) (ho : outE sig 0 env ds = some o) :
    o.length = ds.length ∧ SR K A B1 H1 (vs.map some) (mkE 0 sig o) := by
  obtain ⟨h1, h2⟩ := outE_at hd ho
  refine ⟨h1, ?_⟩
  have lv : vs.length = sig.length := by
    have := S0.len
    rw [List.length_map, mkE_length hd] at this
    exact this
  refine ⟨by rw [List.length_map, mkE_length (by omega)]; omega, S.same, fun j sl ov e1 e2 => ?_, fun i j p sl sl' ne e1 e2 m1 m2 e3 e4 => ?_, S.anc, S.iob, S.ioh, S.tab⟩
  · obtain ⟨b, d, g1, g2, rfl⟩ := mkE_get e1
    have hj : j < ds.length := by
      have := (List.getElem?_eq_some_iff.mp g1).1
      omega
    have hd0 := List.getElem?_eq_getElem hj
    have old := S0.slot j _ ov (mkE_at (k := 0) g1 hd0) e2
    rcases h2 j b d g1 g2 with ⟨rfl, he⟩ | ⟨rfl, hds⟩
    · rw [if_pos rfl] at old ⊢
      rw [Nat.zero_add] at he old ⊢
      cases old with
      | @io _ p _ a1 c1 =>
        have hi := (List.getElem?_eq_some_iff.mp he).1
        have hs := List.getElem?_eq_getElem (l := σ) (i := j) (by rw [S.len]; exact hi)
        cases hv : σ[j]'(by rw [S.len]; exact hi) with
        | none =>
          rw [hv] at hs
          cases S.slot j _ _ he hs
        | some v =>
          rw [hv] at hs
          cases S.slot j _ _ he hs with
          | @io _ p' _ a2 c2 =>
            rw [a1] at a2
            cases a2
            exact .io a1 c2
    · rw [if_neg Bool.false_ne_true] at old ⊢
      rw [hd0] at hds
      cases hds
      cases old with
      | im r => exact .im (r.mono s)
  · obtain ⟨b, d, g1, g2, rfl⟩ := mkE_get e1
    obtain ⟨b', d', g1', g2', rfl⟩ := mkE_get e2
    have hj : i < ds.length := by
      have := (List.getElem?_eq_some_iff.mp g1).1
      omega
    have hj' : j < ds.length := by
      have := (List.getElem?_eq_some_iff.mp g1').1
      omega
    refine S0.inj i j p _ _ ne (mkE_at (k := 0) g1 (List.getElem?_eq_getElem hj)) (mkE_at (k := 0) g1' (List.getElem?_eq_getElem hj')) ?_ ?_ e3 e4
    · cases b with
      | true => rfl
      | false => cases m1
    · cases b' with
      | true => rfl
      | false => cases m2
/-- what is given back is the caller's own from there on -/
theorem give_back {sig : List Bool} {o : List D} {vs : List V} {B1 H1 : Hp} {d : D} {p : Addr} (S : SR K A B1 H1 (vs.map some) (mkE 0 sig o)) (ho : o.length = sig.length) (b : B1 p = none) (h0 : A.H0 p = none) (c : Cont K B1 d (H1 p)) :
    SR K A B1 H1 (vs.map some ++ [some (.ref p)]) (mkE 0 sig o ++ [.ow d]) := by
  have ln := S.len
  have no : ∀ (i : Nat) (sl : Sl), (mkE 0 sig o)[i]? = some sl → sl.mut = true → (vs.map some)[i]? ≠ some (some (V.ref p)) := fun i sl e m z => by
    obtain ⟨bb, d', g1, g2, rfl⟩ := mkE_get e
    cases bb with
    | false => cases m
    | true =>
      rw [if_pos rfl] at e
      cases S.slot i _ _ e z with
      | io a1 c1 =>
        obtain ⟨u, hu⟩ := S.ioh p ⟨_, a1⟩
        rw [h0] at hu
        cases hu
  refine ⟨by simp only [List.length_append, List.length_cons, List.length_nil] at ln ⊢; omega, S.same, fun i sl ov g1 g2 => ?_, fun i i' p' sl sl' ne g1 g2 m1 m2 g3 g4 => ?_, S.anc, S.iob, S.ioh, S.tab⟩
  · rcases getE_snoc g1 with ⟨hi, g1⟩ | ⟨hi, rfl⟩
    · rw [List.getElem?_append_left (by rw [ln]; exact hi)] at g2
      exact S.slot i sl ov g1 g2
    · rw [hi, ← ln] at g2
      have : ov = some (.ref p) := by simpa using g2.symm
      subst this
      exact .ow b h0 c
  · rcases getE_snoc g1 with ⟨hi, g1⟩ | ⟨hi, rfl⟩
    · rw [List.getElem?_append_left (by rw [ln]; exact hi)] at g3
      rcases getE_snoc g2 with ⟨hi', g2⟩ | ⟨hi', rfl⟩
      · rw [List.getElem?_append_left (by rw [ln]; exact hi')] at g4
        exact S.inj i i' p' sl sl' ne g1 g2 m1 m2 g3 g4
      · rw [hi', ← ln] at g4
        have : V.ref p = V.ref p' := by simpa using g4
        cases this
        exact no i sl g1 m1 g3
    · rw [hi, ← ln] at g3
      have : V.ref p = V.ref p' := by simpa using g3
      cases this
      rcases getE_snoc g2 with ⟨hi', g2⟩ | ⟨hi', rfl⟩
      · rw [List.getElem?_append_left (by rw [ln]; exact hi')] at g4
        exact no i' sl' g2 m2 g4
      · exact ne (hi.trans hi'.symm)
theorem body_ok {sig : List Bool} {n : Nat} {body : SM} {t : TS} (hn : sig.length ≤ n) (hb : ∀ A, SSX K A t body) {N : List Str} (hN : N.length = n) {vs : List V} {H : Hp} {Q : VK} {E : XK} (h : spF K ⟨runF sig n body, sig⟩ vs H Q E) :
    t { nx := fun _ H' => Q .non H', rt := Q } (L2.start N vs) H := by
  obtain ⟨A, B, ds, ds', r, hA, hB, S, hd, hf, q⟩ := h
  have hf : runF sig n body ds = some (r, ds') := hf
  have hd : ds.length = sig.length := hd
  unfold runF at hf
  rw [if_pos hd] at hf
  have lv : vs.length = sig.length := by
    have := S.len
    rw [List.length_map] at this
    rw [this]
    exact mkE_length hd
  have S0 : SR K A B H (L2.start N vs) (mkE 0 sig ds ++ List.replicate (n - ds.length) .em) := by
    have e : L2.start N vs = vs.map some ++ List.replicate (n - ds.length) none := by
      unfold L2.start
      rw [hN, lv, hd]
    rw [e]
    exact S.ems _
  split at hf
  · rename_i e1 hbe
    split at hf
    · rename_i o ho
      cases hf
      refine hb A (L2.start N vs) B H _ e1 .nx _ S0 hbe fun σ1 B1 H1 s1 S1 => ?_
      obtain ⟨lo, S2⟩ := params_end S hd s1 S1 ho
      exact q B1 H1 .non s1 lo ⟨S2, .non⟩
    · cases hf
  · rename_i r0 e1 hbe
    split at hf
    · rename_i r' o hr ho
      cases hf
      refine hb A (L2.start N vs) B H _ e1 (.rt r0) _ S0 hbe fun σ1 B1 H1 v s1 hl1 hv => ?_
      have S1 : SR K A B1 H1 σ1 e1 := hv.drop.app_nil
      obtain ⟨lo, S2⟩ := params_end S hd s1 S1 ho
      have lo2 : ds'.length = sig.length := by omega
      cases r0 with
      | im d =>
        cases hr
        exact q B1 H1 v s1 lo ⟨S2, hv.2⟩
      | fr d =>
        cases hr
        have hv : SR K A B1 H1 (σ1 ++ [] ++ [some v]) (e1 ++ [] ++ [.ow d]) := hv
        rw [List.append_nil, List.append_nil] at hv
        have g1 : (e1 ++ [Sl.ow d])[e1.length]? = some (.ow d) := by simp
        have g2 : (σ1 ++ [some v])[e1.length]? = some (some v) := by
          rw [← hl1]
          simp
        cases hv.slot _ _ _ g1 g2 with
        | ow b h0 c => exact q B1 H1 _ s1 lo (give_back S2 lo2 b h0 c)
      | bo i =>
        obtain ⟨_, hi⟩ := hv
        unfold retV at hr
        dsimp only at hr
        split at hr
        · rename_i d he
          cases hr
          cases S1.slot _ _ _ he hi with
          | ow b h0 c => exact q B1 H1 _ s1 lo (give_back S2 lo2 b h0 c)
        · rename_i d he
          cases hr
          cases S1.slot _ _ _ he hi with
          | im r => exact q B1 H1 v s1 lo ⟨S2, r⟩
        · cases hr
    · cases hf
  · cases hf
end

/-- where a def of the text stands -/
structure DefAt (g : G0) (x : Str) (st : Stmt) (ps : List Str) : Prop where
  ex : ∃ (f : Addr) (fd : FuncData), g.mg x = some (.ref f) ∧ Fun g.K x x st f fd ∧ Binds g.K fd ps []
theorem fn_atD {g : G0} {x : Str} {st : Stmt} {f : Addr} {fd : FuncData} {N ps : List Str} {sig : List Bool} {body : SM} {k : Nat} {dn : Option (Str × Value)} (hdn : ∀ y cd, dn = some (y, cd) → y = x ∧ cd = fd.code) (h2 : Fun g.K x x st f fd) (S : FnScope N ps (defScope st)) (hs : sig.length = ps.length) (hb : ESs g ⟨N, defScope st, fun _ => true, k, dn⟩ (defBody st) body) :
    FnG g (k + 1) f fd ps (spF g.K ⟨runF sig N.length body, sig⟩) := by
  obtain ⟨oc, od, kV, doc, pm, an, cdv, ct, osl, rfl, lk, hcd⟩ := h2.ex
  have len : ∀ vs H Q, spF g.K ⟨runF sig N.length body, sig⟩ vs H Q E0 → vs.length = ps.length := fun vs H Q ⟨A, B, ds, ds', r, _, _, S', hd, _⟩ => by
    have := S'.len
    have hd : ds.length = sig.length := hd
    rw [List.length_map] at this
    rw [this, ← hs]
    exact mkE_length hd
  have hpl : ps.length ≤ N.length := by
    have := congrArg List.length S.pre
    rw [List.length_take] at this
    omega
  obtain ⟨t, ht, hq⟩ := hb
  refine ⟨len, fun A outer s H args us vs Q hr hgu e0 hbd r hsp => ?_⟩
  have hl := len _ _ _ hsp
  have KX : g.K.In s.heap := e0.mod.kin.keeps fun b o e => (e0.bs b o e).1
  have lim : s.heap.NoLimit := e0.mod.nolimit.keeps fun b o e => (e0.bs b o e).1
  have hkind : ∀ y ∈ ps.zip us, (defScope st).names.lookup y.1 = some .local ∨ ((defScope st).names.lookup y.1 = some .cell ∧ ((cellsFrom (s.heap.objs.size + 1) (defScope st).names []).lookup y.1).isSome = true) := fun ⟨n, v⟩ hy => by
    rcases S.par n (List.of_mem_zip hy).1 with q | q
    · exact .inl q
    · exact .inr ⟨q, PySem.W.cellsFrom_some _ _ _ (.inl q)⟩
  refine codeAny_call_function hr.depth (KX _ _ lk) rfl S.co S.gen rfl (PySem.W.codeRec_of KX hcd) (hbd _ _ _ _ ?_)
  refine wpAny_newFunctionEnv_cells S.kind hkind fun env he s1 x1 => ?_
  subst he
  refine ⟨lim.keeps x1.toInCall.keep, codeAny_func ?_⟩
  have I : Inv (cxOf CX0 g.P g.w g.K g.mg g.base N x (defScope st) f cdv A outer s H E0) [] (L2.start N vs) H s1 := inv_start S hr.hd e0 hl r x1
  have cok : Cok g ⟨N, defScope st, fun _ => true, k, dn⟩ (cxOf CX0 g.P g.w g.K g.mg g.base N x (defScope st) f cdv A outer s H E0).nox :=
    ⟨rfl, rfl, rfl, rfl, rfl, rfl, rfl, rfl, S.nd, fun _ _ => rfl, hr.deeper _, hgu, rfl, fun y cd e => by
      obtain ⟨rfl, rfl⟩ := hdn y cd e
      exact ⟨rfl, rfl⟩⟩
  have hq2 := body_ok (n := N.length) (by omega) hq rfl hsp
  refine wpAny_mono ((ht _ cok).nox.run [] s1 (L2.start N vs) H _ I hq2) (fun fl s' hs' => ?_) fun e s' hs' => hs'
  have fin : ∀ {σ' : L2.St} {H' : Hp} {v : V} {u : Value}, Inv (cxOf CX0 g.P g.w g.K g.mg g.base N x (defScope st) f cdv A outer s H E0) [] σ' H' s' → RelV v u → Q v H' → CE outer g.P g.w H s Q u s' :=
    fun {σ' H' v u} J rv q => ⟨v, H', J.os, J.bare, J.base, J.hok, rv, q⟩
  cases fl with
  | ret u =>
    obtain ⟨v, σ', H', J, rv, q⟩ := hs'
    exact fin J rv q
  | next =>
    obtain ⟨σ', H', J, q⟩ := hs'
    exact fin (v := V.non) (u := Value.none) J rfl q
  | brk =>
    obtain ⟨_, _, _, q⟩ := hs'
    exact False.elim q
  | cont =>
    obtain ⟨_, _, _, q⟩ := hs'
    exact False.elim q
theorem fn_at {g : G0} {x : Str} {st : Stmt} {f : Addr} {fd : FuncData} {N ps : List Str} {sig : List Bool} {body : SM} {k : Nat} (h2 : Fun g.K x x st f fd) (S : FnScope N ps (defScope st)) (hs : sig.length = ps.length) (hb : ESs g ⟨N, defScope st, fun _ => true, k, none⟩ (defBody st) body) :
    FnG g (k + 1) f fd ps (spF g.K ⟨runF sig N.length body, sig⟩) := fn_atD (dn := none) (fun _ _ z => nomatch z) h2 S hs hb
theorem fn_rule {g : G0} {x : Str} {st : Stmt} {N ps : List Str} {sig : List Bool} {body : SM} {k : Nat} (D : DefAt g x st ps) (S : FnScope N ps (defScope st)) (hs : sig.length = ps.length) (hb : ESs g ⟨N, defScope st, fun _ => true, k, none⟩ (defBody st) body) :
    FnI g x (k + 1) ⟨runF sig N.length body, sig⟩ := by
  obtain ⟨f, fd, h1, h2, h3⟩ := D.ex
  exact ⟨f, fd, ps, h1, h2.kp, h3, fn_at h2 S hs hb⟩
end PD
namespace PD
variable [PD.TabL]
open PySem PySem.Spec PyProof.Rows L2

/-- the law's call, behind the top: the script is the one thing that is tracked -/
theorem top_call {P : Program} {w : World} {K : PySem.W.Frag} {mg mb : Str → Option Value} {k : Nat} {fa a : Addr} {fd : FuncData} {x : Str} {sp : Sp} {s1 : Shared} {vs : List Value} {ns : List Int}
    (KX : K.In s1.heap) (hns : s1.heap.Ns mainGlobals mg) (hb : s1.heap.Ns builtinsNs mb) (hbb : ∀ x : Str, x ≠ "__name__" → mb x = bootBuiltins x) (hlim : s1.heap.NoLimit) (hg : s1.gens = #[])
    (ha : s1.heap.get? a = some { cls := .type "list", data := .seq vs.toArray }) (hi : IntsAre vs ns) (hl : ns.length ≤ sizeLine) (hr : Room k callerA)
    (F : ∀ base : Heap, K.In base → base.Ns mainGlobals mg → FnG ⟨P, w, K, mg, base⟩ k fa fd [x] sp) (hbind : ∀ (s : Shared) (u : Value), BindsTo s fd ⟨[u], []⟩ [(x, u)])
    (hsp : ∀ H : Hp, SqL K H a (ns.map V.int) → sp [.ref a] H (fun v _ => v = .bl true) E0) :
    codeAny (model P w) callerA (.call (.ref fa) ⟨[.ref a], []⟩) (fun r s' => r = .ok (.ret (.bool true)) ∧ OldK s1.heap s'.heap ∧ s'.os = s1.os ∧ AllBare s'.gens) s1 := by
  have rv := vals_ints hi
  have lv := hi.length
  have go : ∀ H : Hp, Only H → SqL K H a (ns.map V.int) → HOk P w H s1.heap → (∀ b, H b ≠ none → b = a) → (H a ≠ none → K.lookup a = none) →
      codeAny (model P w) callerA (.call (.ref fa) ⟨[.ref a], []⟩) (fun r s' => r = .ok (.ret (.bool true)) ∧ OldK s1.heap s'.heap ∧ s'.os = s1.os ∧ AllBare s'.gens) s1 := fun H hO hS hok hA hK => by
    have nd : ∀ {b : Addr} {o : Obj} {es : Array DictEntry} {ep : Nat}, s1.heap.get? b = some o → o.data = .dict es ep → H b = none := fun {b o es ep} e d => by
      by_cases q : H b = none
      · exact q
      · have e' := hA b q
        subst e'
        rw [ha] at e
        cases e
        cases d
    have nsK : ∀ {b : Addr} {m : Str → Option Value}, s1.heap.Ns b m → (hidT s1.heap H).Ns b m := fun ⟨o, es, ep, e, d, r⟩ => ⟨o, es, ep, hidT_get e (nd e d), d, r⟩
    have kb : K.In (hidT s1.heap H) := fun b o e => hidT_get (KX b o e) (by
      by_cases q : H b = none
      · exact q
      · have e' := hA b q
        subst e'
        rw [hK q] at e
        cases e)
    have md : Mod K mg (hidT s1.heap H) := ⟨kb, nsK hns, ⟨mb, nsK hb, hbb⟩, by
      obtain ⟨mc, h1, h2⟩ := hlim
      exact ⟨mc, nsK h1, h2⟩⟩
    have en : Env0 P w K mg (hidT s1.heap H) callerA [] s1 H := ⟨rfl, md, fun b o e => of_hidT e, Nat.le_of_eq (hidT_size _ _), trivial, fun b hb => absurd (show b ∈ ([] : List Addr) from hb) (by simp), hok, .of_eq hg⟩
    have run := (F _ kb (nsK hns)).run callerA [] s1 H ⟨[.ref a], []⟩ [.ref a] [.ref a] (fun v _ => v = .bl true) hr rfl en (hbind s1 (.ref a)) (.cons rfl .nil) (hsp H hS)
    refine codeAny_mono run fun r s' h => ?_
    match r, h with
    | .ok (.ret u), h =>
      obtain ⟨v, H', os, bare, un, hok', r', q⟩ := h
      obtain rfl : v = .bl true := q
      obtain rfl : u = Value.bool true := r'
      refine ⟨rfl, OldK.of_keep fun b o e => ?_, os, bare⟩
      cases q : H b with
      | none => exact un.keep b o e q (fun z => absurd (show b ∈ ([] : List Addr) from z) (by simp)) (by simp)
      | some u =>
        rcases hO b with z | ⟨ob, xs, z⟩
        · rw [q] at z
          cases z
        · obtain ⟨e1, _⟩ := hok b _ z
          obtain ⟨e2, _⟩ := hok' b _ (un.frzs b ob _ z)
          rw [e] at e1
          cases e1
          exact e2
    | .ok .next, h => exact h.elim
    | .ok .brk, h => exact h.elim
    | .ok .cont, h => exact h.elim
    | .error e, h => exact h.elim
  cases hk : K.lookup a with
  | some o =>
    have e := KX a o hk
    rw [ha] at e
    cases e
    have no : ∀ (b : Addr) (u : HO), (fun _ => none : Hp) b = some u → False := fun b u z => by cases z
    exact go (fun _ => none) (fun _ => .inl rfl) (.inr ⟨_, vs.toArray, _, hk, rfl, rfl, rfl, by rw [List.size_toArray, lv]; exact hl, by simpa using rv⟩) (fun b u z => (no b u z).elim) (fun b z => absurd rfl z) fun z => absurd rfl z
  | none =>
    let Hs : Hp := fun b => if b = a then some (.frz { cls := .type "list", data := .seq vs.toArray } (.lst (ns.map V.int))) else none
    have at_a : Hs a = some (.frz { cls := .type "list", data := .seq vs.toArray } (.lst (ns.map V.int))) := if_pos rfl
    have off : ∀ b, b ≠ a → Hs b = none := fun b h => if_neg h
    refine go Hs (fun b => ?_) (.inl (.inr ⟨_, at_a⟩)) (fun b u z => ?_) (fun b z => ?_) fun _ => hk
    · by_cases hb : b = a
      · exact .inr ⟨_, _, hb ▸ at_a⟩
      · exact .inl (off b hb)
    · by_cases hb : b = a
      · subst hb
        rw [at_a] at z
        cases z
        exact ⟨ha, by rw [List.length_map]; exact hl, vs, _, rv, ha⟩
      · rw [off b hb] at z
        cases z
    · by_cases hb : b = a
      · exact hb
      · exact absurd (off b hb) z

theorem sqL_noT {K : PySem.W.Frag} {H : Hp} {a : Addr} {xs : List V} (n : a ∉ tbA) (h : SqL K H a xs) : SqL K (noT H) a xs := by
  have e := noT_of (H := H) n
  rcases h with (h | ⟨o, h⟩) | h
  · exact .inl (.inl (e.trans h))
  · exact .inl (.inr ⟨o, e.trans h⟩)
  · exact .inr h
/-- the law's promise at its start -/
theorem law_sp {K : PySem.W.Frag} {F : Fs} {H : Hp} {a : Addr} {ns : List Int} {o : List D} {E : XK} (hsig : F.sig = [false]) (ho : F.sem [.sc ns] = some (.im (.bl true), o)) (hT : ∀ p ∈ TabL.T, H p.1 = some (.tbl #[])) (hA : a ∉ tbA) (hS : SqL K H a (ns.map V.int)) :
    spF K F [.ref a] H (fun v _ => v = .bl true) E := by
  have S : SR K ⟨noT H, noT H, fun _ => none⟩ (noT H) H ([V.ref a].map some) (mkE 0 F.sig [.sc ns]) := by
    rw [hsig]
    refine ⟨rfl, fun _ _ => noT_some, fun i sl ov e1 e2 => ?_, fun i j p sl sl' ne e1 e2 m1 m2 e3 e4 => ?_, fun _ _ e _ => ⟨noT_some e, .inl rfl⟩, fun b ⟨j, h⟩ => (by cases h), fun b ⟨j, h⟩ => (by cases h), fun p hp => ⟨LamX.TabS.nil (hT p hp), noT_tab hp, noT_tab hp⟩⟩
    · cases i with
      | zero =>
        cases e1
        cases e2
        exact .im (.sc (sqL_noT hA hS))
      | succ i => cases e1
    · cases i with
      | zero =>
        cases e1
        cases m1
      | succ i => cases e1
  refine ⟨_, noT H, [.sc ns], o, .im (.bl true), rfl, rfl, S, by rw [hsig]; rfl, ho, fun B' H' v _ _ h => ?_⟩
  obtain ⟨_, r⟩ := h
  cases r
  rfl
end PD
namespace PD
variable [PD.TabL]
open PySem PySem.Spec PyProof.Rows L2

section
variable {α β : Type} {R : α → β → Prop}
theorem pr1 {a : α} {ys : List β} (h : Paired R [a] ys) : ∃ y, ys = [y] ∧ R a y := by
  cases h with
  | cons h t =>
    cases t
    exact ⟨_, rfl, h⟩
theorem pr2 {a b : α} {ys : List β} (h : Paired R [a, b] ys) : ∃ y z, ys = [y, z] ∧ R a y ∧ R b z := by
  cases h with
  | cons h t =>
    obtain ⟨z, rfl, h2⟩ := pr1 t
    exact ⟨_, _, rfl, h, h2⟩
end
section
variable {K : PySem.W.Frag} {A : Anc} {B H : Hp} {vs : L2.St} {env : Env}
/-- an answer that is no new thing -/
theorem VRp.im (S : SR K A B H vs env) {d : D} {v : V} (r : Rp K B d v) : VRp K A B H vs env (.im d) v := ⟨S, r⟩
theorem VRp.tup (S : SR K A B H vs env) {p : Addr} {xs : List V} {ds : List D} (hp : H p = none) (r : Rps K B ds xs) : ∃ B', Same B B' ∧ VRp K A B' (upd H p (.tup xs)) vs env (.im (.tup ds)) (.ref p) := by
  obtain ⟨S', s'⟩ := S.laidF (o := .tup xs) hp
  exact ⟨_, s', S', .tup upd_same (r.mono s')⟩
theorem VRp.lst (S : SR K A B H vs env) {p : Addr} {xs : List V} {ds : List D} (hp : H p = none) (r : Rps K B ds xs) : VRp K A B (upd H p (.lst xs)) vs env (.fr (.lst ds)) (.ref p) := S.push hp (.lst r)
end
theorem ok_app {x y : Str} (h : PyData.strOk x = true) (h' : PyData.strOk y = true) : PyData.strOk (x ++ y) = true := by
  show (x.cps ++ y.cps).all (· < 0x110000) = true
  rw [Array.all_append]
  exact Bool.and_eq_true_iff.mpr ⟨h, h'⟩
theorem ok_mem {x : Str} : PyData.strOk x = true ↔ ∀ c ∈ x.cps.toList, c < 0x110000 := by
  show x.cps.all (· < 0x110000) = true ↔ _
  rw [← Array.all_toList, List.all_eq_true]
  simp
theorem ok_sub {x : Str} {l : List Nat} (h : PyData.strOk x = true) (hl : ∀ c ∈ l, c ∈ x.cps.toList) : PyData.strOk ⟨l.toArray⟩ = true := ok_mem.mpr fun c hc => ok_mem.mp h c (hl c (by simpa using hc))

def addD : List D → Option Vl
  | [.int i, .int j] => some (.im (.int (i + j)))
  | [.str x, .str y] => if small (x.length + y.length) = true then some (.im (.str (x ++ y))) else none
  | [.lst xs, .lst ys] => if small (xs.length + ys.length) = true then some (.fr (.lst (xs ++ ys))) else none
  | [.tup xs, .tup ys] => if small (xs.length + ys.length) = true then some (.im (.tup (xs ++ ys))) else none
  | _ => none
theorem op_addD {g : G0} : OpI g (binaryOp .Add) addD := by
  refine ⟨fun x y H Q => ((rI0 fun i j => .int (i + j)) x y H Q ∨ (∃ i j, x = .str i ∧ y = .str j ∧ i.length + j.length ≤ sizeLine ∧ Q (.str (i ++ j)) H)) ∨ (rCat x y H Q ∨ rCatA g.K x y H Q),
    fun c X hX => (op_add.or op_add_str).or (op_cat.or (by rw [← hX.eK]; exact op_catA)), fun A B H vs env xs ds res Q S rr e q => ?_⟩
  unfold addD at e
  split at e
  · cases e
    obtain ⟨x, y, rfl, r1, r2⟩ := pr2 rr
    exact .inl (.inl ⟨_, _, r1.int, r2.int, q B H _ (Same.refl _) (.im S (.int _))⟩)
  · split at e
    · rename_i hs
      cases e
      obtain ⟨x, y, rfl, r1, r2⟩ := pr2 rr
      obtain ⟨e1, o1⟩ := r1.str
      obtain ⟨e2, o2⟩ := r2.str
      exact .inl (.inr ⟨_, _, e1, e2, of_decide_eq_true hs, q B H _ (Same.refl _) (.im S (.str _ (ok_app o1 o2)))⟩)
    · cases e
  · split at e
    · rename_i hs
      cases e
      obtain ⟨x, y, rfl, r1, r2⟩ := pr2 rr
      obtain ⟨a, us, rfl, ha, ra⟩ := r1.lst S.same
      obtain ⟨b, ws, rfl, hb, rb⟩ := r2.lst S.same
      exact .inr (.inl ⟨_, _, _, _, rfl, rfl, ha, hb, by rw [← ra.length, ← rb.length]; exact of_decide_eq_true hs, fun p hp => q B _ _ (Same.refl _) (.lst S hp (ra.app rb))⟩)
    · cases e
  · split at e
    · rename_i ts us hs
      cases e
      obtain ⟨x, y, rfl, r1, r2⟩ := pr2 rr
      obtain ⟨a, us, rfl, ha, ta, ra⟩ := r1.tup S.same
      obtain ⟨b, ws, rfl, hb, tb, rb⟩ := r2.tup S.same
      refine .inr (.inr ⟨a, b, us, ws, rfl, rfl, .of ha, .of hb, by rw [← ra.length, ← rb.length]; exact of_decide_eq_true hs, fun z => ?_, fun _ z => ?_, fun _ z p hp => ?_⟩)
      · subst z
        cases ra
        rw [List.nil_append] at q
        exact q B H _ (Same.refl _) (.im S (.tup tb rb))
      · subst z
        cases rb
        rw [List.append_nil] at q
        exact q B H _ (Same.refl _) (.im S (.tup ta ra))
      · obtain ⟨B', s', v'⟩ := VRp.tup S hp (ra.app rb)
        exact q B' _ _ s' v'
    · cases e
  · cases e
def subD : List D → Option Vl
  | [.int i, .int j] => some (.im (.int (i - j)))
  | _ => none
def s64 (i : Int) : Bool := decide (-(2 ^ 64) < i) && decide (i < 2 ^ 64)
theorem s64_ok {i : Int} (h : s64 i = true) : -(2 ^ 64) < i ∧ i < 2 ^ 64 := by
  have h := Bool.and_eq_true_iff.mp h
  exact ⟨of_decide_eq_true h.1, of_decide_eq_true h.2⟩
def in63 (k : Int) : Bool := decide (-(2 ^ 63) ≤ k) && decide (k < 2 ^ 63)
theorem in63_ok {i : Int} (h : in63 i = true) : -(2 ^ 63) ≤ i ∧ i < 2 ^ 63 := by
  have h := Bool.and_eq_true_iff.mp h
  exact ⟨of_decide_eq_true h.1, of_decide_eq_true h.2⟩
/-- a text k times -/
def timesS (x : Str) (k : Nat) : Str := ⟨((List.replicate k x.cps.toList).flatten).toArray⟩
def mulD : List D → Option Vl
  | [.int i, .int j] => if (s64 i || s64 j) = true then some (.im (.int (i * j))) else none
  | [.str x, .int k] => if (decide (1 < k) && decide (k < 1000) && small (x.length * 1000)) = true then some (.im (.str (timesS x k.toNat))) else none
  | [.lst xs, .int k] => if (in63 k && small (xs.length * k.toNat)) = true then some (.fr (.lst (List.replicate k.toNat xs).flatten)) else none
  | [.tup xs, .int k] => if (!xs.isEmpty && decide (2 ≤ k) && decide (k ≤ 1000) && decide (xs.length ≤ 1000)) = true then some (.im (.tup (List.replicate k.toNat xs).flatten)) else none
  | _ => none
theorem rep_fold : ∀ (k : Nat) (a acc : Array Nat), (List.replicate k a).foldl (· ++ ·) acc = acc ++ ((List.replicate k a.toList).flatten).toArray
  | 0, a, acc => by simp
  | k + 1, a, acc => by
    rw [List.replicate_succ, List.replicate_succ, List.foldl_cons, rep_fold k a, List.flatten_cons]
    rw [Array.append_assoc]
    congr 1
    apply Array.ext'
    simp
def rRepS : R2 := fun x y H Q => ∃ z k, x = .str z ∧ y = .int k ∧ 1 < k ∧ k < 1000 ∧ z.length * 1000 ≤ sizeLine ∧ Q (.str (timesS z k.toNat)) H
theorem op_repS {X : Cx} : OpR X (binaryOp .Mult) rRepS := by
  intro pins s σ H x y v u Q I rx ry h
  obtain ⟨z, k, rfl, rfl, h1, h2, hz, q⟩ := h
  obtain ⟨t, rfl⟩ := rx
  obtain ⟨t', rfl⟩ := ry
  have zl : z.length * k.toNat ≤ sizeLine := Nat.le_trans (Nat.mul_le_mul_left _ (by omega)) hz
  have e0 : timesS z k.toNat = ⟨(List.replicate k.toNat z.cps).foldl (· ++ ·) #[]⟩ := by
    rw [rep_fold]
    simp [timesS]
  have fits : (timesS z k.toNat).length ≤ sizeLine := by
    have : (timesS z k.toNat).length = k.toNat * z.length := by
      show ((List.replicate k.toNat z.cps.toList).flatten).toArray.size = _
      simp [Str.length]
    rw [this, Nat.mul_comm]
    exact zl
  refine PySem.P.mul_str (by rw [Bool.or_eq_false_iff]; exact ⟨decide_eq_false (by omega), decide_eq_false (by omega)⟩) (fun _ _ => ?_) (fun _ _ => ?_) ?_
  · have h9 : sizeLine = 16777216 := rfl
    have h3 : (1000 : Int) ≤ 9223372036854775807 / 1000 := by decide
    have h5 : (2 : Int) ^ 63 - 1 = 9223372036854775807 := by decide
    rw [h5]
    have h6 : (z.length : Int) ≤ 16777 := by omega
    have h7 : (16777 : Int) ≤ 9223372036854775807 / k := by
      rw [Int.le_ediv_iff_mul_le (by omega)]
      have : (16777 : Int) * k ≤ 16777 * 1000 := Int.mul_le_mul_of_nonneg_left (by omega) (by decide)
      omega
    omega
  · exact decide_eq_false (by omega)
  · rw [if_neg (by omega)]
    split
    · rename_i hc
      rcases Bool.or_eq_true_iff.mp hc with hc | hc
      · have : k = 1 := by simpa using hc
        omega
      · have hz0 : z.length = 0 := by simpa using hc
        have : timesS z k.toNat = z := by
          have : z = ⟨#[]⟩ := by
            obtain ⟨c⟩ := z
            have : c = #[] := by simpa [Str.length] using hz0
            rw [this]
          rw [this]
          simp [timesS]
        rw [this] at q
        exact ⟨.str z, H, I, ⟨_, rfl⟩, q⟩
    · rw [← e0]
      exact ⟨fits, ⟨.str _, H, I.tok _, ⟨_, rfl⟩, q⟩⟩
theorem ok_times {x : Str} {k : Nat} (h : PyData.strOk x = true) : PyData.strOk (timesS x k) = true := ok_sub h fun c hc => by
  obtain ⟨l, h1, h2⟩ := List.mem_flatten.mp hc
  rw [(List.mem_replicate.mp h1).2] at h2
  exact h2
theorem op_mulD {g : G0} : OpI g (binaryOp .Mult) mulD := by
  refine ⟨fun x y H Q => ((rI CMul fun i j => .int (i * j)) x y H Q ∨ rRepS x y H Q) ∨ (rRep x y H Q ∨ rRepT g.K x y H Q),
    fun c X hX => (op_mul.or op_repS).or (op_rep.or (by rw [← hX.eK]; exact op_repT)), fun A B H vs env xs ds res Q S rr e q => ?_⟩
  unfold mulD at e
  split at e
  · split at e
    · rename_i hs
      cases e
      obtain ⟨x, y, rfl, r1, r2⟩ := pr2 rr
      have hs := Bool.or_eq_true_iff.mp hs
      exact .inl (.inl ⟨_, _, r1.int, r2.int, hs.elim (fun z => .inl (s64_ok z)) (fun z => .inr (s64_ok z)), q B H _ (Same.refl _) (.im S (.int _))⟩)
    · cases e
  · split at e
    · rename_i hs
      cases e
      obtain ⟨x, y, rfl, r1, r2⟩ := pr2 rr
      simp only [Bool.and_eq_true, decide_eq_true_eq] at hs
      obtain ⟨e1, o1⟩ := r1.str
      exact .inl (.inr ⟨_, _, e1, r2.int, hs.1.1, hs.1.2, of_decide_eq_true hs.2, q B H _ (Same.refl _) (.im S (.str _ (ok_times o1)))⟩)
    · cases e
  · split at e
    · rename_i hs
      cases e
      obtain ⟨x, y, rfl, r1, r2⟩ := pr2 rr
      have hs := Bool.and_eq_true_iff.mp hs
      obtain ⟨a, us, rfl, ha, ra⟩ := r1.lst S.same
      obtain ⟨g1, g2⟩ := in63_ok hs.1
      exact .inr (.inl ⟨_, _, _, rfl, r2.int, ha, g1, g2, by rw [← ra.length]; exact of_decide_eq_true hs.2, fun p hp => q B _ _ (Same.refl _) (.lst S hp (ra.repl _))⟩)
    · cases e
  · split at e
    · rename_i hs
      cases e
      obtain ⟨x, y, rfl, r1, r2⟩ := pr2 rr
      simp only [Bool.and_eq_true, decide_eq_true_eq] at hs
      obtain ⟨a, us, rfl, ha, ta, ra⟩ := r1.tup S.same
      have ne : us ≠ [] := fun z => by
        subst z
        cases ra
        exact absurd hs.1.1.1 (by simp)
      refine .inr (.inr ⟨a, _, us, rfl, r2.int, .of ha, ne, hs.1.1.2, hs.1.2, by rw [← ra.length]; exact hs.2, fun p hp => ?_⟩)
      obtain ⟨B', s', v'⟩ := VRp.tup S hp (ra.repl _)
      exact q B' _ _ s' v'
    · cases e
  · cases e
def divD : List D → Option Vl
  | [.int i, .int j] => if (decide (j ≠ 0) && decide (j.natAbs < 1073741824)) = true then some (.im (.int (i.fdiv j))) else none
  | _ => none
theorem op_divD {g : G0} : OpI g (binaryOp .FloorDiv) divD := by
  refine ⟨_, fun c X hX => op_fdivN, fun A B H vs env xs ds res Q S rr e q => ?_⟩
  unfold divD at e
  split at e
  · split at e
    · rename_i hs
      cases e
      obtain ⟨x, y, rfl, r1, r2⟩ := pr2 rr
      have hs := Bool.and_eq_true_iff.mp hs
      exact ⟨_, _, r1.int, r2.int, ⟨of_decide_eq_true hs.1, of_decide_eq_true hs.2⟩, q B H _ (Same.refl _) (.im S (.int _))⟩
    · cases e
  · cases e
def modD : List D → Option Vl
  | [.int i, .int j] => if decide (j ≠ 0) = true then some (.im (.int (i.fmod j))) else none
  | _ => none
theorem op_modD {g : G0} : OpI g (binaryOp .Mod) modD := by
  refine ⟨_, fun c X hX => op_modN, fun A B H vs env xs ds res Q S rr e q => ?_⟩
  unfold modD at e
  split at e
  · split at e
    · rename_i hs
      cases e
      obtain ⟨x, y, rfl, r1, r2⟩ := pr2 rr
      exact ⟨_, _, r1.int, r2.int, of_decide_eq_true hs, q B H _ (Same.refl _) (.im S (.int _))⟩
    · cases e
  · cases e
def powD : List D → Option Vl
  | [.int i, .int j] => if (decide (0 ≤ j) && decide (j ≤ 1000000) && decide (i.natAbs < 2 ^ 64)) = true then some (.im (.int (i ^ j.toNat))) else none
  | _ => none
theorem op_powD {g : G0} : OpI g (binaryOp .Pow) powD := by
  refine ⟨_, fun c X hX => op_pow, fun A B H vs env xs ds res Q S rr e q => ?_⟩
  unfold powD at e
  split at e
  · split at e
    · rename_i hs
      cases e
      obtain ⟨x, y, rfl, r1, r2⟩ := pr2 rr
      simp only [Bool.and_eq_true, decide_eq_true_eq] at hs
      exact ⟨_, _, r1.int, r2.int, ⟨hs.1.1, hs.1.2, hs.2⟩, q B H _ (Same.refl _) (.im S (.int _))⟩
    · cases e
  · cases e
def negD : List D → Option Vl
  | [.int i] => some (.im (.int (-i)))
  | _ => none
theorem un_negD {g : G0} : UnI g (unaryOp .USub) negD := by
  refine ⟨_, fun c X hX => un_neg, fun A B H vs env xs ds res Q S rr e q => ?_⟩
  unfold negD at e
  split at e
  · cases e
    obtain ⟨x, rfl, r1⟩ := pr1 rr
    exact ⟨_, r1.int, q B H _ (Same.refl _) (.im S (.int _))⟩
  · cases e
end PD
namespace PD
variable [PD.TabL]
open PySem PySem.Spec PyProof.Rows L2

mutual
def D.py : D → PyData
  | .non => .none
  | .bl b => .bool b
  | .int i => .int i
  | .str x => .str x
  | .tup ds => .tuple (pys ds)
  | .lst ds => .list (pys ds)
  | .dk _ => .none
  | .dt _ => .none
  | .kf _ => .none
  | .tf _ => .none
  | .ex _ _ _ => .none
  | .cl _ => .none
  | .sc _ => .none
  | .fe => .none
  | .ty _ => .none
  | .txt _ => .none
  | .tp ds => .tuple (pys ds)
def pys : List D → List PyData
  | [] => []
  | d :: ds => d.py :: pys ds
end
mutual
def D.isPy : D → Bool
  | .non => true
  | .bl _ => true
  | .int _ => true
  | .str _ => true
  | .tup ds => arePy ds
  | .lst ds => arePy ds
  | .dk _ => false
  | .dt _ => false
  | .kf _ => false
  | .tf _ => false
  | .ex _ _ _ => false
  | .cl _ => false
  | .sc _ => false
  | .fe => false
  | .ty _ => false
  | .txt _ => false
  | .tp ds => arePy ds
def arePy : List D → Bool
  | [] => true
  | d :: ds => d.isPy && arePy ds
end
theorem pys_map : ∀ ds : List D, pys ds = ds.map D.py
  | [] => rfl
  | d :: ds => by
    show d.py :: pys ds = _
    rw [pys_map ds]
    rfl
theorem arePy_all : ∀ ds : List D, arePy ds = ds.all D.isPy
  | [] => rfl
  | d :: ds => by
    show (d.isPy && arePy ds) = _
    rw [arePy_all ds]
    rfl
section
variable {K : PySem.W.Frag} {B H : Hp}
mutual
theorem Rp.dp (s : Same B H) : ∀ {d : D} {v : V}, d.isPy = true → Rp K B d v → Dp K H v d.py
  | _, _, _, .non => by simp only [D.py]; exact .non
  | _, _, _, .bl b => by simp only [D.py]; exact .bl b
  | _, _, _, .int i => by simp only [D.py]; exact .int i
  | _, _, _, .str x h => by simp only [D.py]; exact .str x
  | _, _, n, .tup h r => by
    simp only [D.py]
    exact .tup (h.same s).sq (Rps.dp s (by simpa [D.isPy] using n) r)
  | _, _, n, .lst h r => by
    simp only [D.py]
    exact .lst (.of (s _ _ h)) (Rps.dp s (by simpa [D.isPy] using n) r)
  | _, _, n, .dk _ _ _ => by simp [D.isPy] at n
  | _, _, n, .dt _ _ _ => by simp [D.isPy] at n
  | _, _, n, .kf _ _ _ => by simp [D.isPy] at n
  | _, _, n, .tf _ _ _ => by simp [D.isPy] at n
  | _, _, n, .ex _ _ _ => by simp [D.isPy] at n
  | _, _, n, .cl _ => by simp [D.isPy] at n
  | _, _, n, .sc _ => by simp [D.isPy] at n
  | _, _, n, .fe _ => by simp [D.isPy] at n
  | _, _, n, .ty _ => by simp [D.isPy] at n
  | _, _, n, .txt _ => by simp [D.isPy] at n
  | _, _, n, .tp h _ r => by
    simp only [D.py]
    exact .tup (.inl (.inr ⟨_, s _ _ h⟩)) (Rps.dp s (by simpa [D.isPy] using n) r)
theorem Rps.dp (s : Same B H) : ∀ {ds : List D} {vs : List V}, arePy ds = true → Rps K B ds vs → DpAll K H vs (pys ds)
  | _, _, _, .nil => by simp only [pys]; exact .nil
  | d :: ds, _, n, .cons h r => by
    have n : d.isPy = true ∧ arePy ds = true := by simpa [arePy] using n
    simp only [pys]
    exact .cons (Rp.dp s n.1 h) (Rps.dp s n.2 r)
end
mutual
theorem Rp.lay : ∀ {d : D} {v : V}, Rp K B d v → d.py.canLay0 = true
  | _, _, .non => by simp [D.py, PyData.canLay0]
  | _, _, .bl b => by simp [D.py, PyData.canLay0]
  | _, _, .int i => by simp [D.py, PyData.canLay0]
  | _, _, .str x h => by simpa [D.py, PyData.canLay0] using h
  | _, _, .tup h r => by simpa [D.py, PyData.canLay0] using Rps.lay r
  | _, _, .lst h r => by simpa [D.py, PyData.canLay0] using Rps.lay r
  | _, _, .dk _ _ _ => by simp [D.py, PyData.canLay0]
  | _, _, .dt _ _ _ => by simp [D.py, PyData.canLay0]
  | _, _, .kf _ _ _ => by simp [D.py, PyData.canLay0]
  | _, _, .tf _ _ _ => by simp [D.py, PyData.canLay0]
  | _, _, .ex _ _ _ => by simp [D.py, PyData.canLay0]
  | _, _, .cl _ => by simp [D.py, PyData.canLay0]
  | _, _, .sc _ => by simp [D.py, PyData.canLay0]
  | _, _, .fe _ => by simp [D.py, PyData.canLay0]
  | _, _, .ty _ => by simp [D.py, PyData.canLay0]
  | _, _, .txt _ => by simp [D.py, PyData.canLay0]
  | _, _, .tp _ _ r => by simpa [D.py, PyData.canLay0] using Rps.lay r
theorem Rps.lay : ∀ {ds : List D} {vs : List V}, Rps K B ds vs → PyData.canLayAll0 (pys ds) = true
  | _, _, .nil => by simp [pys, PyData.canLayAll0]
  | _, _, .cons h r => by simp [pys, PyData.canLayAll0, Rp.lay h, Rps.lay r]
end
theorem Rr.dp {d : D} {v : V} (s : Same B H) (n : d.isPy = true) (h : Rr K B H d v) : Dp K H v d.py := by
  cases h with
  | fz r => exact r.dp s n
  | ct c =>
    rename_i p
    generalize e : H p = o at c
    cases c with
    | lst r =>
      simp only [D.py]
      exact .lst (.of e) (r.dp s (by simpa [D.isPy] using n))
    | dk _ _ => simp [D.isPy] at n
    | dt _ _ => simp [D.isPy] at n
theorem Rr.lay {d : D} {v : V} (h : Rr K B H d v) : d.py.canLay0 = true := by
  cases h with
  | fz r => exact r.lay
  | ct c =>
    rename_i p
    generalize e : H p = o at c
    cases c with
    | lst r => simpa [D.py, PyData.canLay0] using r.lay
    | dk _ _ => simp [D.py, PyData.canLay0]
    | dt _ _ => simp [D.py, PyData.canLay0]
end
/-- no deeper than n -/
def depB (n : Nat) (d : D) : Bool := decide (d.py.depth ≤ n)

def eqB (d e : D) : Bool := PyData.eqv d.py e.py
theorem Rr.txt {K : PySem.W.Frag} {B H : Hp} {x : Str} {v : V} (h : Rr K B H (.txt x) v) : v = .str x := by
  cases h with
  | fz r => cases r; rfl
  | ct c =>
    rename_i p
    generalize e : H p = o at c
    cases c
def eqD : List D → Option Vl
  | [.txt x, .txt y] => some (.im (.bl (decide (x = y))))
  | [d, e] => if (d.isPy && e.isPy && (depB 64 d || depB 64 e)) = true then some (.im (.bl (eqB d e))) else none
  | _ => none
def neD : List D → Option Vl
  | [.txt x, .txt y] => some (.im (.bl (!decide (x = y))))
  | [d, e] => if (d.isPy && e.isPy && (depB 64 d || depB 64 e)) = true then some (.im (.bl (!eqB d e))) else none
  | _ => none
def rEqA (K : PySem.W.Frag) : R2 := fun x y H Q => ∃ d e, Dp K H x d ∧ Dp K H y e ∧ d.canLay0 = true ∧ e.canLay0 = true ∧ min d.depth e.depth ≤ 64 ∧ Q (.bl (PyData.eqv d e)) H
def rNeA (K : PySem.W.Frag) : R2 := fun x y H Q => ∃ d e, Dp K H x d ∧ Dp K H y e ∧ d.canLay0 = true ∧ e.canLay0 = true ∧ min d.depth e.depth ≤ 64 ∧ Q (.bl (!PyData.eqv d e)) H
theorem op_eqA {X : Cx} (hu : X.A.units + 64 < cLine) : OpR X (compareOp .Eq) (rEqA X.K) := by
  intro pins s σ H x y v u Q I rx ry h
  obtain ⟨d, e, hd, he, sd, se, hm, q⟩ := h
  obtain ⟨as, r1⟩ := Dp.reads I d x v hd rx
  obtain ⟨bs, r2⟩ := Dp.reads I e y u he ry
  exact SeqAt.compareEq_reads r1 r2 sd se (by omega) ⟨.bl _, H, I, rfl, q⟩
theorem op_neA {X : Cx} (hu : X.A.units + 64 < cLine) : OpR X (compareOp .NotEq) (rNeA X.K) := by
  intro pins s σ H x y v u Q I rx ry h
  obtain ⟨d, e, hd, he, sd, se, hm, q⟩ := h
  obtain ⟨as, r1⟩ := Dp.reads I d x v hd rx
  obtain ⟨bs, r2⟩ := Dp.reads I e y u he ry
  exact SeqAt.compareNe_reads r1 r2 sd se (by omega) ⟨.bl _, H, I, rfl, q⟩
theorem dep_min {d e : D} (h : (depB 64 d || depB 64 e) = true) : min d.py.depth e.py.depth ≤ 64 := by
  rcases Bool.or_eq_true_iff.mp h with h | h
  · have := of_decide_eq_true h
    omega
  · have := of_decide_eq_true h
    omega
theorem op_eqD' {g : G0} : OpI g (compareOp .Eq) eqD := by
  refine ⟨fun x y H Q => rEqA g.K x y H Q ∨ rEq x y H Q, fun c X hX => by rw [← hX.eK]; exact (op_eqA hX.room.units).or op_eq, fun A B H vs env xs ds res Q S rr e q => ?_⟩
  unfold eqD at e
  split at e
  · cases e
    obtain ⟨x, y, rfl, r1, r2⟩ := pr2 rr
    rw [r1.txt, r2.txt]
    refine .inr ⟨rfl, ?_⟩
    rw [show decide (V.str _ = V.str _) = decide _ from decide_eq_decide.mpr ⟨fun z => V.str.inj z, fun z => congrArg V.str z⟩]
    exact q B H _ (Same.refl _) (.im S (.bl _))
  · split at e
    · rename_i hs
      cases e
      obtain ⟨x, y, rfl, r1, r2⟩ := pr2 rr
      obtain ⟨hs, h3⟩ := Bool.and_eq_true_iff.mp hs
      obtain ⟨h1, h2⟩ := Bool.and_eq_true_iff.mp hs
      exact .inl ⟨_, _, r1.dp S.same h1, r2.dp S.same h2, r1.lay, r2.lay, dep_min h3, q B H _ (Same.refl _) (.im S (.bl _))⟩
    · cases e
  · cases e
theorem op_neD' {g : G0} : OpI g (compareOp .NotEq) neD := by
  refine ⟨fun x y H Q => rNeA g.K x y H Q ∨ rNe x y H Q, fun c X hX => by rw [← hX.eK]; exact (op_neA hX.room.units).or op_ne, fun A B H vs env xs ds res Q S rr e q => ?_⟩
  unfold neD at e
  split at e
  · cases e
    obtain ⟨x, y, rfl, r1, r2⟩ := pr2 rr
    rw [r1.txt, r2.txt]
    refine .inr ⟨rfl, ?_⟩
    rw [show decide (V.str _ = V.str _) = decide _ from decide_eq_decide.mpr ⟨fun z => V.str.inj z, fun z => congrArg V.str z⟩]
    exact q B H _ (Same.refl _) (.im S (.bl _))
  · split at e
    · rename_i hs
      cases e
      obtain ⟨x, y, rfl, r1, r2⟩ := pr2 rr
      obtain ⟨hs, h3⟩ := Bool.and_eq_true_iff.mp hs
      obtain ⟨h1, h2⟩ := Bool.and_eq_true_iff.mp hs
      exact .inl ⟨_, _, r1.dp S.same h1, r2.dp S.same h2, r1.lay, r2.lay, dep_min h3, q B H _ (Same.refl _) (.im S (.bl _))⟩
    · cases e
  · cases e

def ltStr (x y : Str) : Bool := decide (x.cps.toList < y.cps.toList)
def ltD : List D → Option Vl
  | [.int i, .int j] => some (.im (.bl (decide (i < j))))
  | [.str x, .str y] => some (.im (.bl (ltStr x y)))
  | _ => none
theorem op_ltD {g : G0} : OpI g (compareOp .Lt) ltD := by
  refine ⟨_, fun c X hX => op_lt.or op_lt_str, fun A B H vs env xs ds res Q S rr e q => ?_⟩
  unfold ltD at e
  split at e
  · cases e
    obtain ⟨x, y, rfl, r1, r2⟩ := pr2 rr
    exact .inl ⟨_, _, r1.int, r2.int, q B H _ (Same.refl _) (.im S (.bl _))⟩
  · cases e
    obtain ⟨x, y, rfl, r1, r2⟩ := pr2 rr
    exact .inr ⟨_, _, r1.str.1, r2.str.1, q B H _ (Same.refl _) (.im S (.bl _))⟩
  · cases e
def leD : List D → Option Vl
  | [.int i, .int j] => some (.im (.bl (decide (i ≤ j))))
  | _ => none
def gtD : List D → Option Vl
  | [.int i, .int j] => some (.im (.bl (decide (j < i))))
  | _ => none
theorem op_gtD {g : G0} : OpI g (compareOp .Gt) gtD := by
  refine ⟨_, fun c X hX => op_gt, fun A B H vs env xs ds res Q S rr e q => ?_⟩
  unfold gtD at e
  split at e
  · cases e
    obtain ⟨x, y, rfl, r1, r2⟩ := pr2 rr
    exact ⟨_, _, r1.int, r2.int, q B H _ (Same.refl _) (.im S (.bl _))⟩
  · cases e
def geD : List D → Option Vl
  | [.int i, .int j] => some (.im (.bl (decide (j ≤ i))))
  | _ => none
theorem op_geD {g : G0} : OpI g (compareOp .GtE) geD := by
  refine ⟨_, fun c X hX => op_ge, fun A B H vs env xs ds res Q S rr e q => ?_⟩
  unfold geD at e
  split at e
  · cases e
    obtain ⟨x, y, rfl, r1, r2⟩ := pr2 rr
    exact ⟨_, _, r1.int, r2.int, q B H _ (Same.refl _) (.im S (.bl _))⟩
  · cases e

def isD : List D → Option Vl
  | [d, .non] => match d with
    | .non => some (.im (.bl true))
    | _ => some (.im (.bl false))
  | [.bl a, .bl b] => some (.im (.bl (decide (a = b))))
  | _ => none
def D.isNon : D → Bool
  | .non => true
  | _ => false
theorem Rr.nonq {K : PySem.W.Frag} {B H : Hp} {d : D} {v : V} (h : Rr K B H d v) : decide (v = .non) = d.isNon := by
  cases h with
  | fz r => cases r <;> simp [D.isNon]
  | ct c =>
    rename_i p
    generalize e : H p = o at c
    cases c <;> simp [D.isNon]
theorem op_isD {g : G0} : OpI g (compareOp .Is) isD := by
  refine ⟨_, fun c X hX => op_isN.or op_isBl, fun A B H vs env xs ds res Q S rr e q => ?_⟩
  unfold isD at e
  split at e
  · rename_i d
    obtain ⟨x, y, rfl, r1, r2⟩ := pr2 rr
    refine .inl ⟨r2.non, ?_⟩
    rw [r1.nonq]
    cases d <;> (cases e; exact q B H _ (Same.refl _) (.im S (.bl _)))
  · cases e
    obtain ⟨x, y, rfl, r1, r2⟩ := pr2 rr
    exact .inr ⟨_, _, r1.bl, r2.bl, q B H _ (Same.refl _) (.im S (.bl _))⟩
  · cases e
def isnD : List D → Option Vl
  | [d, .non] => match d with
    | .non => some (.im (.bl false))
    | _ => some (.im (.bl true))
  | [.bl a, .bl b] => some (.im (.bl (!decide (a = b))))
  | _ => none
theorem op_isnD {g : G0} : OpI g (compareOp .IsNot) isnD := by
  refine ⟨_, fun c X hX => op_notN.or op_notBl, fun A B H vs env xs ds res Q S rr e q => ?_⟩
  unfold isnD at e
  split at e
  · rename_i d
    obtain ⟨x, y, rfl, r1, r2⟩ := pr2 rr
    refine .inl ⟨r2.non, ?_⟩
    rw [r1.nonq]
    cases d <;> (cases e; exact q B H _ (Same.refl _) (.im S (.bl _)))
  · cases e
    obtain ⟨x, y, rfl, r1, r2⟩ := pr2 rr
    exact .inr ⟨_, _, r1.bl, r2.bl, q B H _ (Same.refl _) (.im S (.bl _))⟩
  · cases e

def keyD : D → Option Key
  | .int i => some (.inl i)
  | .str x => some (.inr x)
  | _ => none
def keysD : List D → Option (List Key)
  | [] => some []
  | d :: ds => match keyD d, keysD ds with
    | some k, some ks => some (k :: ks)
    | _, _ => none
def getK {κ : Type} [DecidableEq κ] (es : List (κ × D)) (k : κ) : Option D := (es.find? fun e => decide (e.1 = k)).map (·.2)
section
variable {K : PySem.W.Frag} {B H : Hp}
theorem Rr.key {d : D} {v : V} {k : Key} (h : Rr K B H d v) (e : keyD d = some k) : v = kV k := by
  cases d with
  | int i =>
    cases e
    exact h.int
  | str x =>
    cases e
    exact h.str.1
  | _ => cases e
theorem Rps.keys : ∀ {ds : List D} {vs : List V} {ks : List Key}, Rps K B ds vs → keysD ds = some ks → vs = ks.map kV
  | _, _, ks, .nil, e => by
    cases e
    rfl
  | d :: ds, v :: vs, ks, .cons h r, e => by
    unfold keysD at e
    split at e
    · rename_i k ks' h1 h2
      cases e
      rw [Rr.key (H := B) (.fz h) h1, Rps.keys r h2]
      rfl
    · cases e
theorem getK_val {κ : Type} [DecidableEq κ] {k : κ} : ∀ {es : List (κ × D)} {kvs : List (κ × V)}, es.map (·.1) = kvs.map (·.1) → Rps K B (es.map (·.2)) (kvs.map (·.2)) →
    (∀ d, getK es k = some d → ∃ v, valV kvs k = some v ∧ Rp K B d v) ∧ (getK es k = none → valV kvs k = none)
  | [], [], _, _ => ⟨fun d h => by simp [getK] at h, fun _ => rfl⟩
  | [], _ :: _, e, _ => by simp at e
  | _ :: _, [], e, _ => by simp at e
  | p :: es, q :: kvs, e, r => by
    have e1 : p.1 = q.1 ∧ es.map (·.1) = kvs.map (·.1) := by simpa using e
    cases r with
    | cons r1 r2 =>
      by_cases hk : p.1 = k
      · have g1 : getK (p :: es) k = some p.2 := by simp [getK, hk]
        have g2 : valV (q :: kvs) k = some q.2 := valV_pos (e1.1 ▸ hk)
        rw [g1, g2]
        exact ⟨fun d h => by cases h; exact ⟨_, rfl, r1⟩, fun h => by cases h⟩
      · have g1 : getK (p :: es) k = getK es k := by simp [getK, hk]
        have g2 : valV (q :: kvs) k = valV kvs k := valV_neg (fun z => hk (e1.1.trans z))
        rw [g1, g2]
        exact getK_val e1.2 r2
end

def flatD : D → Bool
  | .non => true
  | .bl _ => true
  | .int _ => true
  | .str _ => true
  | _ => false
section
variable {K : PySem.W.Frag} {B H : Hp}
theorem Rp.flat {d : D} {v : V} (h : Rp K B d v) (f : flatD d = true) : flatV v = true := by
  cases h <;> first | rfl | cases f
theorem Rp.eqf {d e : D} {v u : V} (h : Rp K B d v) (h' : Rp K B e u) (f : flatD d = true) (f' : flatD e = true) : eqV v u = eqB d e := by
  cases h <;> (first | (cases f; done) | (cases h' <;> first | (cases f'; done) | (simp [eqV, eqB, D.py, PyData.eqv])))
theorem Rr.flat {d : D} {v : V} (h : Rr K B H d v) (f : flatD d = true) : Rp K B d v := by
  cases h with
  | fz r => exact r
  | ct c =>
    rename_i p
    generalize e : H p = o at c
    cases c <;> cases f
theorem Rps.flats : ∀ {ds : List D} {vs : List V}, Rps K B ds vs → ds.all flatD = true → vs.all flatV = true
  | _, _, .nil, _ => rfl
  | d :: ds, _, .cons h r, f => by
    have f : flatD d = true ∧ ds.all flatD = true := by simpa using f
    rw [List.all_cons, h.flat f.1, Rps.flats r f.2]
    rfl
theorem Rps.inf {e : D} {u : V} (h' : Rp K B e u) (f' : flatD e = true) : ∀ {ds : List D} {vs : List V}, Rps K B ds vs → ds.all flatD = true → inV u vs = ds.any fun d => eqB d e
  | _, _, .nil, _ => rfl
  | d :: ds, v :: vs, .cons h r, f => by
    have f : flatD d = true ∧ ds.all flatD = true := by simpa using f
    have ih := Rps.inf h' f' r f.2
    unfold inV at ih ⊢
    rw [List.any_cons, List.any_cons, ih, h.eqf h' f.1 f']
end
theorem dget_kf {H : Hp} {a : Addr} {o : Obj} {kvs : List (Key × V)} {k : Key} (e : H a = some (.frz o (.dK kvs))) : DGet H a (kV k) (valV kvs k) := .inl ⟨kvs, k, .inr ⟨o, e⟩, rfl, rfl⟩
theorem dget_tf {H : Hp} {a b : Addr} {o : Obj} {kvs : List (List Key × V)} {k : List Key} (e : H a = some (.frz o (.dT kvs))) (eb : H b = some (.tup (k.map kV))) : DGet H a (.ref b) (valV kvs k) := .inr ⟨kvs, k, b, .inr ⟨o, e⟩, rfl, eb, rfl⟩
def depsB (n : Nat) (ds : List D) : Bool := decide (PyData.depthAll (pys ds) ≤ n)
def inB : List D → Option Bool
  | [.str x, .str y] => some (Txt.contains y x)
  | [d, .lst ds] => if (d.isPy && arePy ds && depB 64 d && depsB 63 ds) = true then some (ds.any fun z => eqB z d) else none
  | [d, .tup ds] => if (flatD d && ds.all flatD) = true then some (ds.any fun z => eqB z d) else none
  | [d, .dk es] => match keyD d with
    | some k => some (getK es k).isSome
    | none => none
  | [.tup ds, .dt es] => match keysD ds with
    | some k => some (getK es k).isSome
    | none => none
  | [d, .kf es] => match keyD d with
    | some k => some (getK es k).isSome
    | none => none
  | [.tup ds, .tf es] => match keysD ds with
    | some k => some (getK es k).isSome
    | none => none
  | _ => none
def notInD (ds : List D) : Option Vl := (inB ds).map fun b => .im (.bl (!b))
def rInAny (K : PySem.W.Frag) (neg : Bool) : R2 := fun x y H Q =>
  ((∃ i j, x = .str i ∧ y = .str j ∧ Q (.bl (if neg then !Txt.contains j i else Txt.contains j i)) H) ∨ (∃ d ds, Dp K H x d ∧ Dp K H y (.list ds) ∧ SeqAt.shaped d = true ∧ SeqAt.shaped (.list ds) = true ∧ Q (.bl (if neg then !(ds.any fun z => PyData.eqv z d) else ds.any fun z => PyData.eqv z d)) H)) ∨
  (rIn K neg x y H Q ∨ ∃ a ov, y = .ref a ∧ DGet H a x ov ∧ Q (.bl (if neg then !ov.isSome else ov.isSome)) H)
theorem op_notInAny {X : Cx} (hu : X.A.units + 65 < cLine) : OpR X (compareOp .NotIn) (rInAny X.K true) := by
  refine (OpR.or ?_ ?_).or (OpR.or op_notIn_seq ?_)
  · exact op_notIn_str
  · exact op_notInD hu
  · intro pins s σ H x y v u Q I rx ry h
    obtain ⟨a, ov, rfl, gd, q⟩ := h
    obtain rfl : u = Value.ref a := ry
    exact d_notIn (by omega) I gd rx fun s' I' => ⟨.bl _, H, I', rfl, q⟩
theorem pys_any (d : D) : ∀ ds : List D, ((pys ds).any fun z => PyData.eqv z d.py) = ds.any fun z => eqB z d
  | [] => rfl
  | e :: ds => by
    show (PyData.eqv e.py d.py || (pys ds).any _) = _
    rw [pys_any d ds]
    rfl
theorem inAny_ok {K : PySem.W.Frag} {A : Anc} {B H : Hp} {vs : L2.St} {env : Env} {neg : Bool} {xs : List V} {ds : List D} {b : Bool} {Q : VK} (S : SR K A B H vs env) (rr : Paired (Rr K B H) ds xs) (e : inB ds = some b)
    (q : Q (.bl (if neg = true then !b else b)) H) : on2 (rInAny K neg) xs H Q := by
  unfold inB at e
  split at e
  · cases e
    obtain ⟨x, y, rfl, r1, r2⟩ := pr2 rr
    exact .inl (.inl ⟨_, _, r1.str.1, r2.str.1, q⟩)
  · rename_i d es
    split at e
    · rename_i hs
      cases e
      simp only [Bool.and_eq_true] at hs
      obtain ⟨x, y, rfl, r1, r2⟩ := pr2 rr
      have h2 := r2.dp S.same (by simpa [D.isPy] using hs.1.1.2)
      have l2 := r2.lay
      simp only [D.py] at h2 l2
      refine .inl (.inr ⟨d.py, pys es, r1.dp S.same hs.1.1.1, h2, ?_, ?_, ?_⟩)
      · exact Bool.and_eq_true_iff.mpr ⟨r1.lay, hs.1.2⟩
      · refine Bool.and_eq_true_iff.mpr ⟨l2, decide_eq_true ?_⟩
        have := of_decide_eq_true hs.2
        simp only [PyData.depth]
        omega
      · rw [pys_any]
        exact q
    · cases e
  · rename_i d es _
    split at e
    · rename_i hs
      cases e
      have hs := Bool.and_eq_true_iff.mp hs
      obtain ⟨x, y, rfl, r1, r2⟩ := pr2 rr
      obtain ⟨a, us, rfl, ha, ta, ra⟩ := r2.tup S.same
      have r1' := r1.flat hs.1
      refine .inr (.inl ⟨a, us, rfl, .inr (.of ha), r1'.flat hs.1, ra.flats hs.2, ?_⟩)
      rw [Rps.inf r1' hs.1 ra hs.2]
      exact q
    · cases e
  · rename_i d es
    split at e
    · rename_i k hk
      cases e
      obtain ⟨x, y, rfl, r1, r2⟩ := pr2 rr
      obtain ⟨a, kvs, rfl, ha, he, hr⟩ := r2.dk S.same
      rw [r1.key hk]
      refine .inr (.inr ⟨a, valV kvs k, rfl, .k ha, ?_⟩)
      obtain ⟨g1, g2⟩ := getK_val (k := k) he hr
      cases hg : getK es k with
      | none =>
        rw [g2 hg]
        rw [hg] at q
        exact q
      | some d' =>
        obtain ⟨v', h1, _⟩ := g1 d' hg
        rw [h1]
        rw [hg] at q
        exact q
    · cases e
  · rename_i ks es
    split at e
    · rename_i k hk
      cases e
      obtain ⟨x, y, rfl, r1, r2⟩ := pr2 rr
      obtain ⟨a, kvs, rfl, ha, he, hr⟩ := r2.dt S.same
      obtain ⟨b, us, rfl, hb, tb, rb⟩ := r1.tup S.same
      rw [rb.keys hk] at hb
      refine .inr (.inr ⟨a, valV kvs k, rfl, .t ha hb, ?_⟩)
      obtain ⟨g1, g2⟩ := getK_val (k := k) he hr
      cases hg : getK es k with
      | none =>
        rw [g2 hg]
        rw [hg] at q
        exact q
      | some d' =>
        obtain ⟨v', h1, _⟩ := g1 d' hg
        rw [h1]
        rw [hg] at q
        exact q
    · cases e
  · rename_i d es
    split at e
    · rename_i k hk
      cases e
      obtain ⟨x, y, rfl, r1, r2⟩ := pr2 rr
      obtain ⟨a, ob, kvs, rfl, ha, he, hr⟩ := r2.kf S.same
      rw [r1.key hk]
      refine .inr (.inr ⟨a, valV kvs k, rfl, dget_kf ha, ?_⟩)
      obtain ⟨g1, g2⟩ := getK_val (k := k) he hr
      cases hg : getK es k with
      | none =>
        rw [g2 hg]
        rw [hg] at q
        exact q
      | some d' =>
        obtain ⟨v', h1, _⟩ := g1 d' hg
        rw [h1]
        rw [hg] at q
        exact q
    · cases e
  · rename_i ks es
    split at e
    · rename_i k hk
      cases e
      obtain ⟨x, y, rfl, r1, r2⟩ := pr2 rr
      obtain ⟨a, ob, kvs, rfl, ha, he, hr⟩ := r2.tf S.same
      obtain ⟨b, us, rfl, hb, tb, rb⟩ := r1.tup S.same
      rw [rb.keys hk] at hb
      refine .inr (.inr ⟨a, valV kvs k, rfl, dget_tf ha hb, ?_⟩)
      obtain ⟨g1, g2⟩ := getK_val (k := k) he hr
      cases hg : getK es k with
      | none =>
        rw [g2 hg]
        rw [hg] at q
        exact q
      | some d' =>
        obtain ⟨v', h1, _⟩ := g1 d' hg
        rw [h1]
        rw [hg] at q
        exact q
    · cases e
  · cases e
theorem room65 {k : Nat} {A : Around} (h : Room k A) : A.units + 65 < cLine := by
  have := h.un
  omega
theorem op_notInD' {g : G0} : OpI g (compareOp .NotIn) notInD := by
  refine ⟨rInAny g.K true, fun c X hX => by rw [← hX.eK]; exact op_notInAny (room65 hX.room), fun A B H vs env xs ds res Q S rr e q => ?_⟩
  unfold notInD at e
  cases hb : inB ds with
  | none =>
    rw [hb] at e
    cases e
  | some b =>
    rw [hb] at e
    cases e
    exact inAny_ok S rr hb (by rw [if_pos rfl]; exact q B H _ (Same.refl _) (.im S (.bl _)))

def eChain (f h : List D → Option Vl) (ma mb mc : M Vl) : M Vl := bd ma fun ra => bd mb fun rb e => match cnt e ra.hold, cnt e rb.hold with
  | some da, some db => match f [da, db] with
    | some (.im (.bl true)) => bd mc (fun rc e2 => match cnt e2 rb.hold, cnt e2 rc.hold with
      | some db, some dc => match h [db, dc] with
        | some (.im d) => some (.im d, e2)
        | _ => none
      | _, _ => none) e
    | some (.im (.bl false)) => some (.im (.bl false), e)
    | _ => none
  | _, _ => none
section
variable {K : PySem.W.Frag} {A : Anc}
end
end PD
namespace PD
variable [PD.TabL]
open PySem PySem.Spec PyProof.Rows L2

def ixD : List D → Option Vl
  | [.lst ds, .int i] => (atI ds i).map .im
  | [.tup ds, .int i] => (atI ds i).map .im
  | [.sc ns, .int i] => (atI ns i).map fun n => .im (.int n)
  | [.str x, .int i] => if small x.length = true then (atI x.cps.toList i).map fun c => .im (.str ⟨#[c]⟩) else none
  | [.dk es, k] => match keyD k with
    | some k => (getK es k).map .im
    | none => none
  | [.dt es, .tup ks] => match keysD ks with
    | some k => (getK es k).map .im
    | none => none
  | [.kf es, k] => match keyD k with
    | some k => (getK es k).map .im
    | none => none
  | [.tf es, .tup ks] => match keysD ks with
    | some k => (getK es k).map .im
    | none => none
  | _ => none
def rIxDct : R2 := fun x y H Q => ∃ a v, x = .ref a ∧ DGet H a y (some v) ∧ Q v H
theorem ix_dct {X : Cx} (hu : X.A.units + 1 < cLine) : IxR X rIxDct := by
  intro value slice pins s σ H x y v u Q I rx ry h hs
  obtain ⟨a, w, rfl, gd, q⟩ := h
  cases rx
  exact tail_any (dict_typeIs I gd) PySem.F.slot_dict_getitem.lookup (d_getItem hu I gd ry fun w' s' I' rw' => ⟨w, H, I', rw', q⟩) hs
def rIxA (K : PySem.W.Frag) : R2 := fun x y H Q => (rIxL K x y H Q ∨ rIxT K x y H Q) ∨ (rIxS x y H Q ∨ rIxDct x y H Q)
theorem ix_any {X : Cx} (hu : X.A.units + 1 < cLine) : IxR X (rIxA X.K) := (ix_list.or ix_tup).or (ix_str.or (ix_dct hu))
section
variable {K : PySem.W.Frag} {A : Anc} {B H : Hp} {vs : L2.St} {env : Env}
theorem Rps.atI {ds : List D} {xs : List V} {i : Int} {d : D} (r : Rps K B ds xs) (h : L2.atI ds i = some d) : ∃ v, L2.atI xs i = some v ∧ Rp K B d v := by
  unfold L2.atI at h ⊢
  rw [← r.length]
  cases hj : ixN ds.length i with
  | none =>
    rw [hj] at h
    cases h
  | some j =>
    rw [hj] at h
    exact r.get h
theorem atI_mem {α : Type} {xs : List α} {i : Int} {x : α} (h : L2.atI xs i = some x) : x ∈ xs := by
  unfold L2.atI at h
  cases hj : ixN xs.length i with
  | none =>
    rw [hj] at h
    cases h
  | some j =>
    rw [hj] at h
    exact List.mem_of_getElem? h
theorem ix_ok {xs : List V} {ds : List D} {res : Vl} {Q : VK} (S : SR K A B H vs env) (rr : Paired (Rr K B H) ds xs) (e : ixD ds = some res) (q : ∀ B' H' v, Same B B' → VRp K A B' H' vs env res v → Q v H') : on2 (rIxA K) xs H Q := by
  unfold ixD at e
  split at e
  · rename_i es i
    cases hd : L2.atI es i with
    | none =>
      rw [hd] at e
      cases e
    | some d =>
      rw [hd] at e
      cases e
      obtain ⟨x, y, rfl, r1, r2⟩ := pr2 rr
      obtain ⟨a, us, rfl, ha, ra⟩ := r1.lst S.same
      obtain ⟨v, h1, h2⟩ := ra.atI hd
      exact .inl (.inl ⟨a, us, i, v, rfl, r2.int, .of ha, h1, q B H v (Same.refl _) (.im S h2)⟩)
  · rename_i es i
    cases hd : L2.atI es i with
    | none =>
      rw [hd] at e
      cases e
    | some d =>
      rw [hd] at e
      cases e
      obtain ⟨x, y, rfl, r1, r2⟩ := pr2 rr
      obtain ⟨a, us, rfl, ha, _, ra⟩ := r1.tup S.same
      obtain ⟨v, h1, h2⟩ := ra.atI hd
      exact .inl (.inr ⟨a, us, i, v, rfl, r2.int, .of ha, h1, q B H v (Same.refl _) (.im S h2)⟩)
  · rename_i ns i
    cases hd : L2.atI ns i with
    | none =>
      rw [hd] at e
      cases e
    | some n =>
      rw [hd] at e
      cases e
      obtain ⟨x, y, rfl, r1, r2⟩ := pr2 rr
      obtain ⟨a, rfl, ha⟩ := r1.sc S.same
      have h1 : L2.atI (ns.map V.int) i = some (.int n) := by
        unfold L2.atI at hd ⊢
        rw [List.length_map]
        cases hj : ixN ns.length i with
        | none =>
          rw [hj] at hd
          cases hd
        | some j =>
          rw [hj] at hd
          show (ns.map V.int)[j]? = _
          rw [List.getElem?_map, show ns[j]? = some n from hd]
          rfl
      exact .inl (.inl ⟨a, _, i, _, rfl, r2.int, ha, h1, q B H _ (Same.refl _) (.im S (.int n))⟩)
  · rename_i z i
    split at e
    · rename_i hs
      cases hd : L2.atI z.cps.toList i with
      | none =>
        rw [hd] at e
        cases e
      | some c =>
        rw [hd] at e
        cases e
        obtain ⟨x, y, rfl, r1, r2⟩ := pr2 rr
        obtain ⟨e1, o1⟩ := r1.str
        exact .inr (.inl ⟨z, i, c, e1, r2.int, of_decide_eq_true hs, hd, q B H _ (Same.refl _) (.im S (.str _ (ok_sub (l := [c]) o1 fun c' hc' => by
          rw [List.mem_singleton.mp hc']
          exact atI_mem hd)))⟩)
    · cases e
  · rename_i es kd
    split at e
    · rename_i k hk
      cases hd : getK es k with
      | none =>
        rw [hd] at e
        cases e
      | some d =>
        rw [hd] at e
        cases e
        obtain ⟨x, y, rfl, r1, r2⟩ := pr2 rr
        obtain ⟨a, kvs, rfl, ha, he, hr⟩ := r1.dk S.same
        rw [r2.key hk]
        obtain ⟨v, h1, h2⟩ := (getK_val (k := k) he hr).1 d hd
        have gd := DGet.k (k := k) ha
        rw [h1] at gd
        exact .inr (.inr ⟨a, v, rfl, gd, q B H v (Same.refl _) (.im S h2)⟩)
    · cases e
  · rename_i es ks
    split at e
    · rename_i k hk
      cases hd : getK es k with
      | none =>
        rw [hd] at e
        cases e
      | some d =>
        rw [hd] at e
        cases e
        obtain ⟨x, y, rfl, r1, r2⟩ := pr2 rr
        obtain ⟨a, kvs, rfl, ha, he, hr⟩ := r1.dt S.same
        obtain ⟨b, us, rfl, hb, tb, rb⟩ := r2.tup S.same
        rw [rb.keys hk] at hb
        obtain ⟨v, h1, h2⟩ := (getK_val (k := k) he hr).1 d hd
        have gd := DGet.t ha hb
        rw [h1] at gd
        exact .inr (.inr ⟨a, v, rfl, gd, q B H v (Same.refl _) (.im S h2)⟩)
    · cases e
  · rename_i es kd
    split at e
    · rename_i k hk
      cases hd : getK es k with
      | none =>
        rw [hd] at e
        cases e
      | some d =>
        rw [hd] at e
        cases e
        obtain ⟨x, y, rfl, r1, r2⟩ := pr2 rr
        obtain ⟨a, ob, kvs, rfl, ha, he, hr⟩ := r1.kf S.same
        rw [r2.key hk]
        obtain ⟨v, h1, h2⟩ := (getK_val (k := k) he hr).1 d hd
        have gd := dget_kf (k := k) ha
        rw [h1] at gd
        exact .inr (.inr ⟨a, v, rfl, gd, q B H v (Same.refl _) (.im S h2)⟩)
    · cases e
  · rename_i es ks
    split at e
    · rename_i k hk
      cases hd : getK es k with
      | none =>
        rw [hd] at e
        cases e
      | some d =>
        rw [hd] at e
        cases e
        obtain ⟨x, y, rfl, r1, r2⟩ := pr2 rr
        obtain ⟨a, ob, kvs, rfl, ha, he, hr⟩ := r1.tf S.same
        obtain ⟨b, us, rfl, hb, tb, rb⟩ := r2.tup S.same
        rw [rb.keys hk] at hb
        obtain ⟨v, h1, h2⟩ := (getK_val (k := k) he hr).1 d hd
        have gd := dget_tf ha hb
        rw [h1] at gd
        exact .inr (.inr ⟨a, v, rfl, gd, q B H v (Same.refl _) (.im S h2)⟩)
    · cases e
  · cases e
end
section
variable {g : G0} {c : Ct} {e a b : Expr} {es : List Expr} {pos p apos : Pos} {m ma mb : M Vl} {ms : M (List Vl)}
theorem ee_ix (h : EE g c a ma) (h' : EE g c b mb) (hs : PlainIx b) : EE g c (.Subscript a b pos) (eP ixD (cA ma (cA mb cN))) := by
  obtain ⟨t, h1, h2⟩ := h
  obtain ⟨u, h3, h4⟩ := h'
  refine ⟨tOp (rIxA g.K) t u, fun X hX => ?_, fun A => sx_op (fun A B H vs env xs ds res Q S rr e q => ix_ok S rr e q) (h2 A) (h4 A)⟩
  rw [← hX.eK]
  exact pe_ix (ix_any (hu_of hX.room)) (h1 X hX) (h3 X hX) hs
end

def cutD {α : Type} (ds : List α) (lo hi : Option Int) : List α := (ds.drop (HT.sIx ds.length 0 lo)).take (HT.sIx ds.length ds.length hi - HT.sIx ds.length 0 lo)
def slD (lo hi : Option Int) : D → Option Vl
  | .lst ds => some (.fr (.lst (cutD ds lo hi)))
  | .tup ds => some (.im (.tup (cutD ds lo hi)))
  | .sc ns => some (.fr (.lst ((cutD ns lo hi).map D.int)))
  | .str x => if small x.length = true then some (.im (.str (cutS x lo hi))) else none
  | _ => none
def rSlAny (K : PySem.W.Frag) : V → Option Int → Option Int → Hp → VK → Prop := fun x lo hi H Q => (rSlL K x lo hi H Q ∨ rSlA K x lo hi H Q) ∨ rSlS x lo hi H Q
theorem sl_any {X : Cx} : SlR X (rSlAny X.K) := (sl_list.or sl_tupA).or sl_str
section
variable {K : PySem.W.Frag} {A : Anc} {B H : Hp} {vs : L2.St} {env : Env}
theorem sl_ok {x : V} {d : D} {lo hi : Option Int} {res : Vl} {Q : VK} (S : SR K A B H vs env) (rr : Rr K B H d x) (e : slD lo hi d = some res) (q : ∀ B' H' v, Same B B' → VRp K A B' H' vs env res v → Q v H') : rSlAny K x lo hi H Q := by
  unfold slD at e
  split at e
  · cases e
    obtain ⟨a, us, rfl, ha, ra⟩ := rr.lst S.same
    refine .inl (.inl ⟨a, us, rfl, .of ha, fun p hp => q B _ _ (Same.refl _) (.lst S hp ?_)⟩)
    unfold cutV cutD
    rw [← ra.length]
    exact (ra.drop _).take _
  · rename_i ds
    cases e
    obtain ⟨a, us, rfl, ha, ta, ra⟩ := rr.tup S.same
    have rc : Rps K B (cutD ds lo hi) (cutV us lo hi) := by
      unfold cutV cutD
      rw [← ra.length]
      exact (ra.drop _).take _
    refine .inl (.inr ⟨a, us, rfl, .of ha, fun ⟨z1, z2⟩ => ?_, fun _ p hp => ?_⟩)
    · have e1 : cutD ds lo hi = ds := by
        unfold cutD
        rw [ra.length, z1, z2, List.drop_zero, Nat.sub_zero, ← ra.length, List.take_length]
      rw [e1] at q
      exact q B H _ (Same.refl _) (.im S (.tup ta ra))
    · obtain ⟨B', s', v'⟩ := VRp.tup S hp rc
      exact q B' _ _ s' v'
  · rename_i ns
    cases e
    obtain ⟨a, rfl, ha⟩ := rr.sc S.same
    refine .inl (.inl ⟨a, _, rfl, ha, fun p hp => q B _ _ (Same.refl _) (.lst S hp ?_)⟩)
    have e1 : cutV (ns.map V.int) lo hi = (cutD ns lo hi).map V.int := by
      unfold cutV cutD
      rw [List.length_map, List.map_take, List.map_drop]
    rw [e1]
    exact Rps.of_ints _
  · rename_i z
    split at e
    · rename_i hs
      cases e
      obtain ⟨e1, o1⟩ := rr.str
      exact .inr ⟨z, e1, of_decide_eq_true hs, q B H _ (Same.refl _) (.im S (.str _ (ok_sub o1 fun c hc => List.mem_of_mem_drop (List.mem_of_mem_take hc))))⟩
    · cases e
  · cases e
/-- a slice's end: left out, or a number -/
def SOX (K : PySem.W.Frag) (A : Anc) (t : TO) (m : M (Option Int)) : Prop := ∀ (σ τ : L2.St) (B H : Hp) (env pe env' : Env) (o : Option Int) (Q : Option Int → Hp → Prop), SR K A B H (σ ++ τ) (env ++ pe) → σ.length = env.length → m env = some (o, env') →
  (∀ B' H', Same B B' → σ.length = env'.length → SR K A B' H' (σ ++ τ) (env' ++ pe) → Q o H') → t σ H Q
def oN : M (Option Int) := rt none
def oS (m : M Vl) : M (Option Int) := bd m fun r e => match r with
  | .im (.int i) => some (some i, e)
  | _ => none
theorem so_none : SOX K A tNoPart oN := fun σ τ B H env pe env' o Q S hl e q => by
  cases e
  exact q B H (Same.refl _) hl S
theorem so_some {t : TE} {m : M Vl} (h : SEX K A t m) : SOX K A (tPart t) (oS m) := fun σ τ B H env pe env' o Q S hl e q => by
  obtain ⟨r, e1, h1, e⟩ := bd_inv e
  split at e
  · rename_i i
    cases e
    refine h σ τ B H env pe _ _ _ S hl h1 fun B1 H1 v s1 hl1 hv => ?_
    obtain ⟨S1, rr⟩ := hv
    cases rr
    exact ⟨i, rfl, q B1 H1 s1 hl1 S1⟩
  · cases e
def eSl (ma : M Vl) (lo hi : M (Option Int)) : M Vl := bd ma fun r => bd lo fun l => bd hi fun h e => match cnt e r.hold with
  | some d => match slD l h d with
    | some (.im d') => some (.im d', e)
    | some (.fr d') => some (.fr d', e)
    | _ => none
  | none => none
theorem sx_sl {t : TE} {tl th : TO} {ma : M Vl} {lo hi : M (Option Int)} (h : SEX K A t ma) (hl' : SOX K A tl lo) (hh : SOX K A th hi) : SEX K A (tSl (rSlAny K) t tl th) (eSl ma lo hi) := fun σ τ B H env pe env' res Q S hl e q => by
  obtain ⟨r, e1, h1, e⟩ := bd_inv e
  obtain ⟨l, e2, h2, e⟩ := bd_inv e
  obtain ⟨u, e3, h3, e⟩ := bd_inv e
  refine h σ τ B H env pe e1 r _ S hl h1 fun B1 H1 v s1 hl1 hv => ?_
  obtain ⟨B2, s2, S2, hhv⟩ := hv.held
  refine hl' σ τ B2 H1 e1 pe e2 l _ S2 hl1 h2 fun B3 H3 s3 hl3 S3 => ?_
  refine hh σ τ B3 H3 e2 pe e3 u _ S3 hl3 h3 fun B4 H4 s4 hl4 S4 => ?_
  split at e
  · rename_i d hd
    have rr := Hv.rr S4 hl4 (hhv.mono (s3.trans s4)) hd
    split at e
    · rename_i d' hs
      cases e
      exact sl_ok S4 rr hs fun B5 H5 w s5 hw => q B5 H5 w ((((s1.trans s2).trans s3).trans s4).trans s5) hl4 hw
    · rename_i d' hs
      cases e
      exact sl_ok S4 rr hs fun B5 H5 w s5 hw => q B5 H5 w ((((s1.trans s2).trans s3).trans s4).trans s5) hl4 hw
    · cases e
  · cases e
end
def EO (g : G0) (c : Ct) (e : Option Expr) (m : M (Option Int)) : Prop := ∃ t, (∀ X, Cok g c X → PO X e t) ∧ ∀ A, SOX g.K A t m
section
variable {g : G0} {c : Ct} {e a b : Expr} {es : List Expr} {pos p p2 apos : Pos} {m ma mb : M Vl} {ms : M (List Vl)}
theorem eo_none : EO g c none oN := ⟨_, fun _ _ => po_none, fun _ => so_none⟩
theorem eo_some (h : EE g c e m) : EO g c (some e) (oS m) := by
  obtain ⟨t, h1, h2⟩ := h
  exact ⟨_, fun X hX => po_some (h1 X hX), fun A => so_some (h2 A)⟩
theorem ee_sl {lo hi : Option Expr} {ml mh : M (Option Int)} (h : EE g c a ma) (hl : EO g c lo ml) (hh : EO g c hi mh) : EE g c (.Subscript a (.Slice lo hi none p2) pos) (eSl ma ml mh) := by
  obtain ⟨t, h1, h2⟩ := h
  obtain ⟨u, h3, h4⟩ := hl
  obtain ⟨v, h5, h6⟩ := hh
  refine ⟨tSl (rSlAny g.K) t u v, fun X hX => ?_, fun A => sx_sl (h2 A) (h4 A) (h6 A)⟩
  rw [← hX.eK]
  exact pe_slice sl_any (h1 X hX) (h3 X hX) (h5 X hX)
end

def lenD : List D → Option Vl
  | [.str x] => if small x.length = true then some (.im (.int x.length)) else none
  | [.lst ds] => some (.im (.int ds.length))
  | [.tup ds] => some (.im (.int ds.length))
  | [.sc ns] => some (.im (.int ns.length))
  | [.tp ds] => some (.im (.int ds.length))
  | _ => none
theorem ca_len {g : G0} : CaI g (.builtin "len") lenD := by
  refine ⟨fun xs H Q => ∃ x n, xs = [x] ∧ LenV g.K x H n ∧ Q (.int n) H, fun c X hX => by rw [← hX.eK]; exact call_len, fun A B H vs env xs ds res Q S rr e q => ?_⟩
  unfold lenD at e
  split at e
  · split at e
    · rename_i hs
      cases e
      obtain ⟨x, rfl, r1⟩ := pr1 rr
      obtain ⟨e1, _⟩ := r1.str
      exact ⟨x, _, rfl, by rw [e1]; exact ⟨of_decide_eq_true hs, rfl⟩, q B H _ (Same.refl _) (.im S (.int _))⟩
    · cases e
  · cases e
    obtain ⟨x, rfl, r1⟩ := pr1 rr
    obtain ⟨a, us, rfl, ha, ra⟩ := r1.lst S.same
    exact ⟨_, _, rfl, .inl ⟨us, .of ha, ra.length⟩, q B H _ (Same.refl _) (.im S (.int _))⟩
  · cases e
    obtain ⟨x, rfl, r1⟩ := pr1 rr
    obtain ⟨a, us, rfl, ha, _, ra⟩ := r1.tup S.same
    exact ⟨_, _, rfl, .inr ⟨us, .of ha, ra.length⟩, q B H _ (Same.refl _) (.im S (.int _))⟩
  · cases e
    obtain ⟨x, rfl, r1⟩ := pr1 rr
    obtain ⟨a, rfl, ha⟩ := r1.sc S.same
    exact ⟨_, _, rfl, .inl ⟨_, ha, by rw [List.length_map]⟩, q B H _ (Same.refl _) (.im S (.int _))⟩
  · cases e
    obtain ⟨x, rfl, r1⟩ := pr1 rr
    obtain ⟨a, o, us, rfl, ha, _, ra⟩ := r1.tp S.same
    exact ⟨_, _, rfl, .inr ⟨us, .inl (.inr ⟨_, ha⟩), ra.length⟩, q B H _ (Same.refl _) (.im S (.int _))⟩
  · cases e
def absD : List D → Option Vl
  | [.int i] => some (.im (.int (if i < 0 then -i else i)))
  | _ => none
theorem ca_abs {g : G0} : CaI g (.builtin "abs") absD := by
  refine ⟨_, fun c X hX => call_abs, fun A B H vs env xs ds res Q S rr e q => ?_⟩
  unfold absD at e
  split at e
  · cases e
    obtain ⟨x, rfl, r1⟩ := pr1 rr
    exact ⟨_, by rw [r1.int], q B H _ (Same.refl _) (.im S (.int _))⟩
  · cases e
def maxD : List D → Option Vl
  | [.int i, .int j] => some (.im (.int (if j > i then j else i)))
  | _ => none
def minD : List D → Option Vl
  | [.int i, .int j] => some (.im (.int (if j < i then j else i)))
  | _ => none
theorem ca_min {g : G0} : CaI g (.builtin "min") minD := by
  refine ⟨_, fun c X hX => call_min2 hX.calm, fun A B H vs env xs ds res Q S rr e q => ?_⟩
  unfold minD at e
  split at e
  · cases e
    obtain ⟨x, y, rfl, r1, r2⟩ := pr2 rr
    exact ⟨_, _, by rw [r1.int, r2.int], q B H _ (Same.refl _) (.im S (.int _))⟩
  · cases e
def intD : List D → Option Vl
  | [.int i] => some (.im (.int i))
  | [.bl b] => some (.im (.int (if b then 1 else 0)))
  | _ => none
theorem ca_int {g : G0} : CaI g (.type "int") intD := by
  refine ⟨_, fun c X hX => call_int1, fun A B H vs env xs ds res Q S rr e q => ?_⟩
  unfold intD at e
  split at e
  · cases e
    obtain ⟨x, rfl, r1⟩ := pr1 rr
    exact .inl ⟨_, by rw [r1.int], q B H _ (Same.refl _) (.im S (.int _))⟩
  · cases e
    obtain ⟨x, rfl, r1⟩ := pr1 rr
    exact .inr ⟨_, by rw [r1.bl], q B H _ (Same.refl _) (.im S (.int _))⟩
  · cases e
def blsD : List D → Option (List Bool)
  | [] => some []
  | .bl i :: ds => (blsD ds).map (i :: ·)
  | _ => none
def strsD : List D → Option (List Str)
  | [] => some []
  | .str i :: ds => (strsD ds).map (i :: ·)
  | _ => none
theorem blsD_map : ∀ {ds : List D} {ns : List Bool}, blsD ds = some ns → ds = ns.map D.bl
  | [], _, h => by
    cases h
    rfl
  | d :: ds, ns, h => by
    unfold blsD at h
    split at h
    · rename_i heq
      cases heq
    · rename_i i es heq
      cases heq
      cases hs : blsD ds with
      | none =>
        rw [hs] at h
        cases h
      | some ms =>
        rw [hs] at h
        cases h
        rw [List.map_cons, blsD_map hs]
    · cases h
theorem strsD_map : ∀ {ds : List D} {ns : List Str}, strsD ds = some ns → ds = ns.map D.str
  | [], _, h => by
    cases h
    rfl
  | d :: ds, ns, h => by
    unfold strsD at h
    split at h
    · rename_i heq
      cases heq
    · rename_i i es heq
      cases heq
      cases hs : strsD ds with
      | none =>
        rw [hs] at h
        cases h
      | some ms =>
        rw [hs] at h
        cases h
        rw [List.map_cons, strsD_map hs]
    · cases h
theorem strsD_strs : ∀ ns : List Str, strsD (ns.map D.str) = some ns
  | [] => rfl
  | n :: ns => by
    show (strsD (ns.map D.str)).map (n :: ·) = _
    rw [strsD_strs ns]
    rfl
def allD : List D → Option Vl
  | [.lst ds] => (blsD ds).map fun ns => .im (.bl (ns.all id))
  | _ => none
theorem ca_all {g : G0} : CaI g (.builtin "all") allD := by
  refine ⟨rAll g.K, fun c X hX => by rw [← hX.eK]; exact cr_all hX.calm, fun A B H vs env xs ds res Q S rr e q => ?_⟩
  unfold allD at e
  split at e
  · rename_i es
    cases hs : blsD es with
    | none =>
      rw [hs] at e
      cases e
    | some ns =>
      rw [hs] at e
      cases e
      obtain ⟨x, rfl, r1⟩ := pr1 rr
      obtain ⟨a, us, rfl, ha, ra⟩ := r1.lst S.same
      rw [blsD_map hs] at ra
      rw [ra.bls] at ha
      exact ⟨a, ns, rfl, .of ha, q B H _ (Same.refl _) (.im S (.bl _))⟩
  · cases e
def listD : List D → Option Vl
  | [.lst ds] => some (.fr (.lst ds))
  | [.tup ds] => some (.fr (.lst ds))
  | _ => none
theorem ca_list {g : G0} : CaI g (.type "list") listD := by
  refine ⟨fun xs H Q => ∃ p ys, xs = [.ref p] ∧ (SqL g.K H p ys ∨ SqT g.K H p ys) ∧ ∀ l, H l = none → Q (.ref l) (upd H l (.lst ys)), fun c X hX => by rw [← hX.eK]; exact call_list_of, fun A B H vs env xs ds res Q S rr e q => ?_⟩
  unfold listD at e
  split at e
  · cases e
    obtain ⟨x, rfl, r1⟩ := pr1 rr
    obtain ⟨a, us, rfl, ha, ra⟩ := r1.lst S.same
    exact ⟨a, us, rfl, .inl (.of ha), fun l hl => q B _ _ (Same.refl _) (.lst S hl ra)⟩
  · cases e
    obtain ⟨x, rfl, r1⟩ := pr1 rr
    obtain ⟨a, us, rfl, ha, _, ra⟩ := r1.tup S.same
    exact ⟨a, us, rfl, .inr (.of ha), fun l hl => q B _ _ (Same.refl _) (.lst S hl ra)⟩
  · cases e
def tupleD : List D → Option Vl
  | [.lst ds] => some (.im (.tup ds))
  | [.tup ds] => some (.im (.tup ds))
  | _ => none
theorem ca_tuple {g : G0} : CaI g (.type "tuple") tupleD := by
  refine ⟨fun xs H Q => ∃ p ys, xs = [.ref p] ∧ ((SqL g.K H p ys ∧ ∀ l, H l = none → Q (.ref l) (upd H l (.tup ys))) ∨ (SqT g.K H p ys ∧ Q (.ref p) H)), fun c X hX => by rw [← hX.eK]; exact call_tuple_of, fun A B H vs env xs ds res Q S rr e q => ?_⟩
  unfold tupleD at e
  split at e
  · cases e
    obtain ⟨x, rfl, r1⟩ := pr1 rr
    obtain ⟨a, us, rfl, ha, ra⟩ := r1.lst S.same
    refine ⟨a, us, rfl, .inl ⟨.of ha, fun l hl => ?_⟩⟩
    obtain ⟨B', s', v'⟩ := VRp.tup S hl ra
    exact q B' _ _ s' v'
  · cases e
    obtain ⟨x, rfl, r1⟩ := pr1 rr
    obtain ⟨a, us, rfl, ha, ta, ra⟩ := r1.tup S.same
    exact ⟨a, us, rfl, .inr ⟨.of ha, q B H _ (Same.refl _) (.im S (.tup ta ra))⟩⟩
  · cases e

section
variable {K : PySem.W.Frag} {B H : Hp}
end
/-- a built-in class as a value -/
theorem ee_ty {g : G0} {c : Ct} {x : Str} {n : String} {pos : Pos} (hg : GlC c x) (hm : g.mg x = none) (hv : bootBuiltins x = some (.type n)) (hn : x ≠ "__name__") (hdb : (x == ("__debug__" : Str)) = false) : EE g c (.Name x pos) (eC (.ty n)) :=
  ⟨tC (.ty n), fun X hX => pe_bltn (gl_of hX hg) (by rw [hX.em]; exact hm) hv rfl hn hdb, fun _ => sx_con fun _ => .ty n⟩

def chD (x : Str) : List D := x.cps.toList.map fun c => D.str ⟨#[c]⟩
def mStr (m : M Vl) : M (List D) := bd m fun r e => match r with
  | .im (.str x) => some (chD x, e)
  | _ => none
section
variable {K : PySem.W.Frag} {A : Anc}
theorem wd_str {B0 : Hp} {x : Str} (ho : PyData.strOk x = true) : WD K (Its x) B0 (chD x) := by
  have hl : (chD x).length = x.cps.size := by simp [chD]
  refine ⟨fun i H B hi _ _ => ?_, fun H B _ _ => ?_, fun i H B v H' hi _ _ y => ?_⟩
  · exact walk_str.goes i H (by omega) trivial
  · rw [hl]
    exact walk_str.stops H trivial
  · obtain ⟨e1, c, h1, h2⟩ := walk_str.yields i H v H' (by omega) trivial y
    have h3 : x.cps.toList[i]? = some c := by simpa using h1
    refine ⟨.str ⟨#[c]⟩, by simp [chD, h1], .inl ⟨e1, ?_⟩⟩
    rw [h2]
    exact .str _ (ok_sub (l := [c]) ho fun c' hc' => by
      rw [List.mem_singleton.mp hc']
      exact List.mem_of_getElem? h3)
theorem si_str {t : TE} {m : M Vl} (h : SEX K A t m) : SIX K A (iStr t) (mStr m) := fun σ τ B H env pe env' ds R S hl e q => by
  obtain ⟨r, e1, he, e⟩ := bd_inv e
  split at e
  · rename_i x
    cases e
    refine h σ τ B H env pe _ _ _ S hl he fun B1 H1 v s1 hl1 hv => ?_
    obtain ⟨S1, rr⟩ := hv
    cases rr with
    | str _ ho => exact ⟨x, rfl, q B1 H1 _ s1 hl1 S1 (wd_str ho)⟩
  · cases e
theorem ei_str {g : G0} {c : Ct} {tg e : Expr} {m : M Vl} (h : EE g c e m) : EI g c tg e (mStr m) := by
  obtain ⟨t, h1, h2⟩ := h
  exact ⟨_, fun X hX => pi_str (h1 X hX), fun A => si_str (h2 A)⟩
end
end PD
namespace PD
variable [PD.TabL]
open PySem PySem.Spec PyProof.Rows L2

mutual
def D.wt : D → Nat
  | .non => 4
  | .bl _ => 5
  | .int _ => 2000
  | .str x => 10 * x.length + 2
  | .tup ds => wts ds + 4
  | .lst ds => wts ds + 4
  | .tp ds => wts ds + 4
  | _ => 0
def wts : List D → Nat
  | [] => 0
  | d :: ds => d.wt + 2 + wts ds
end
def intB (i : Int) : Bool := decide (i.natAbs.log2 < 1920)
mutual
def D.shw : D → Bool
  | .non => true
  | .bl _ => true
  | .int i => intB i
  | .str _ => true
  | .tup ds => shws ds
  | .lst ds => shws ds
  | .tp ds => shws ds
  | _ => false
def shws : List D → Bool
  | [] => true
  | d :: ds => d.shw && shws ds
end
mutual
theorem shw_py : ∀ {d : D}, d.shw = true → d.py.showable = true ∧ d.isPy = true
  | .non, _ => by simp [D.py, PyData.showable, D.isPy]
  | .bl b, _ => by simp [D.py, PyData.showable, D.isPy]
  | .int i, h => by
    have h : i.natAbs.log2 < 1920 := by simpa [D.shw, intB] using h
    simp [D.py, PyData.showable, D.isPy, h]
  | .str x, _ => by simp [D.py, PyData.showable, D.isPy]
  | .tup ds, h => by
    have := shws_py (ds := ds) (by simpa [D.shw] using h)
    simp [D.py, PyData.showable, D.isPy, this]
  | .lst ds, h => by
    have := shws_py (ds := ds) (by simpa [D.shw] using h)
    simp [D.py, PyData.showable, D.isPy, this]
  | .dk _, h => by simp [D.shw] at h
  | .dt _, h => by simp [D.shw] at h
  | .kf _, h => by simp [D.shw] at h
  | .tf _, h => by simp [D.shw] at h
  | .ex _ _ _, h => by simp [D.shw] at h
  | .cl _, h => by simp [D.shw] at h
  | .sc _, h => by simp [D.shw] at h
  | .fe, h => by simp [D.shw] at h
  | .ty _, h => by simp [D.shw] at h
  | .txt _, h => by simp [D.shw] at h
  | .tp ds, h => by
    have := shws_py (ds := ds) (by simpa [D.shw] using h)
    simp [D.py, PyData.showable, D.isPy, this]
theorem shws_py : ∀ {ds : List D}, shws ds = true → PyData.showableAll (pys ds) = true ∧ arePy ds = true
  | [], _ => by simp [pys, PyData.showableAll, arePy]
  | d :: ds, h => by
    have h : d.shw = true ∧ shws ds = true := by simpa [shws] using h
    have h1 := shw_py h.1
    have h2 := shws_py h.2
    simp [pys, PyData.showableAll, arePy, h1, h2]
end
theorem len_app (x y : Str) : (x ++ y).length = x.length + y.length := by
  show (x.cps ++ y.cps).size = _
  rw [Array.size_append]
  rfl
theorem textFrom_le : ∀ (ts : List Str) (k : Nat) (acc : Str), (textFrom k acc ts).length ≤ acc.length + (ts.map fun t => t.length + 2).sum
  | [], k, acc => by
    show acc.length ≤ _
    omega
  | t :: r, k, acc => by
    have ih := textFrom_le r (k + 1) (acc ++ (if k > 0 then ", " else "" : String) ++ t)
    have e : (acc ++ (if k > 0 then ", " else "" : String) ++ t : Str).length ≤ acc.length + 2 + t.length := by
      rw [len_app, len_app]
      have : (Str.ofString (if k > 0 then ", " else "")).length ≤ 2 := by
        split <;> decide +kernel
      omega
    show (textFrom (k + 1) _ r).length ≤ _
    rw [List.map_cons, List.sum_cons]
    omega
theorem joinS_le : ∀ ts : List Str, (Str.join ", " ts).length ≤ (ts.map fun t => t.length + 2).sum
  | [] => by
    show (Str.join ", " []).length ≤ 0
    decide +kernel
  | x :: r => by
    have h := join_length_add (x :: r) (by simp)
    have p : piled (x :: r) = ((x :: r).map fun t => t.length + 2).sum := rfl
    rw [p] at h
    omega
theorem int_len (i : Int) (h : i.natAbs.log2 < 1920) : (Str.ofString (toString i)).length ≤ 2000 := by
  have e := int_text_length_le (k := 1920) (by decide) h
  rw [PySem.ofString_length]
  omega
mutual
theorem shown_le : ∀ {d : D} {K : PySem.W.Frag} {B : Hp} {v : V}, d.shw = true → Rp K B d v → d.py.shown.length ≤ d.wt
  | .non, _, _, _, _, _ => by simp only [D.py, PyData.shown, D.wt]; decide +kernel
  | .bl b, _, _, _, _, _ => by
    simp only [D.py, PyData.shown, D.wt]
    cases b <;> decide +kernel
  | .int i, _, _, _, h, _ => by
    simp only [D.py, PyData.shown, D.wt]
    exact int_len i (by simpa [D.shw, intB] using h)
  | .str x, _, _, _, _, r => by
    simp only [D.py, PyData.shown, D.wt]
    cases r with
    | str _ ho => exact StrLaws.reprText_len x fun c hc => Nat.lt_of_lt_of_le (ok_mem.mp ho c hc) (by decide)
  | .tup ds, _, _, _, h, r => by
    simp only [D.py, PyData.shown, D.wt]
    cases r with
    | tup _ rr =>
      have := showns_le (ds := ds) (by simpa [D.shw] using h) rr
      unfold tupleText
      rw [len_app, len_app]
      have j := joinS_le (PyData.shownAll (pys ds))
      have e1 : (Str.ofString "(").length = 1 := by decide +kernel
      have e2 : (Str.ofString (if (PyData.shownAll (pys ds)).length == 1 then ",)" else ")")).length ≤ 2 := by
        split <;> decide +kernel
      omega
  | .lst ds, _, _, _, h, r => by
    simp only [D.py, PyData.shown, D.wt]
    cases r with
    | lst _ rr =>
      have := showns_le (ds := ds) (by simpa [D.shw] using h) rr
      unfold listText
      rw [len_app]
      have j := textFrom_le (PyData.shownAll (pys ds)) 0 (Str.ofString "[")
      have e1 : (Str.ofString "[").length = 1 := by decide +kernel
      have e2 : (Str.ofString "]").length = 1 := by decide +kernel
      omega
  | .dk _, _, _, _, h, _ => by simp [D.shw] at h
  | .dt _, _, _, _, h, _ => by simp [D.shw] at h
  | .kf _, _, _, _, h, _ => by simp [D.shw] at h
  | .tf _, _, _, _, h, _ => by simp [D.shw] at h
  | .ex _ _ _, _, _, _, h, _ => by simp [D.shw] at h
  | .cl _, _, _, _, h, _ => by simp [D.shw] at h
  | .sc _, _, _, _, h, _ => by simp [D.shw] at h
  | .fe, _, _, _, h, _ => by simp [D.shw] at h
  | .ty _, _, _, _, h, _ => by simp [D.shw] at h
  | .txt _, _, _, _, h, _ => by simp [D.shw] at h
  | .tp ds, _, _, _, h, r => by
    simp only [D.py, PyData.shown, D.wt]
    cases r with
    | tp _ _ rr =>
      have := showns_le (ds := ds) (by simpa [D.shw] using h) rr
      unfold tupleText
      rw [len_app, len_app]
      have j := joinS_le (PyData.shownAll (pys ds))
      have e1 : (Str.ofString "(").length = 1 := by decide +kernel
      have e2 : (Str.ofString (if (PyData.shownAll (pys ds)).length == 1 then ",)" else ")")).length ≤ 2 := by
        split <;> decide +kernel
      omega
theorem showns_le : ∀ {ds : List D} {K : PySem.W.Frag} {B : Hp} {vs : List V}, shws ds = true → Rps K B ds vs → ((PyData.shownAll (pys ds)).map fun t => t.length + 2).sum ≤ wts ds
  | [], _, _, _, _, _ => by simp [pys, PyData.shownAll, wts]
  | d :: ds, _, _, _, h, .cons r1 r2 => by
    have h : d.shw = true ∧ shws ds = true := by simpa [shws] using h
    have h1 := shown_le h.1 r1
    have h2 := showns_le h.2 r2
    simp only [pys, PyData.shownAll, wts, List.map_cons, List.sum_cons]
    omega
end

/-- repr(x) -/
def reprD : List D → Option Vl
  | [d] => if (d.shw && small d.wt && depB 60 d) = true then some (.im (.txt d.py.shown)) else none
  | _ => none
def rRepr (K : PySem.W.Frag) : List V → Hp → VK → Prop := fun xs H Q => ∃ x d, xs = [x] ∧ Dp K H x d ∧ d.showable = true ∧ d.canLay0 = true ∧ d.shown.length ≤ sizeLine ∧ d.depth ≤ 60 ∧ Q (.str d.shown) H
theorem call_reprD {X : Cx} {k : Nat} (hr : Room k X.A) (hg : X.A.guards = some []) : CallR X (.builtin "repr") (rRepr X.K) := by
  intro pins s σ H xs us Q I r h
  obtain ⟨x, d, rfl, hd, sh, lay, sz, dep, q⟩ := h
  obtain ⟨u, rfl, ru⟩ := vals1 r
  cases hd with
  | non =>
    cases ru
    simp only [PyData.shown] at q sz
    exact call_repr_gives (PySem.typeIs_none s) F.slot_NoneType_repr F.entry_NoneType_repr (F.args_NoneType_repr_1 _) gives_none_repr ⟨.str _, H, I.tok _, ⟨_, rfl⟩, q⟩ (hx := sz)
  | bl b =>
    cases ru
    simp only [PyData.shown] at q sz
    exact call_repr_gives (PySem.typeIs_bool s b) F.slot_bool_repr F.entry_bool_repr (F.args_bool_repr_1 _) (gives_bool_repr b) ⟨.str _, H, I.tok _, ⟨_, rfl⟩, q⟩ (hx := sz)
  | int i =>
    obtain ⟨t, rfl⟩ := ru
    simp only [PyData.shown] at q sz
    exact PySem.P.repr_of_int (by simpa [PyData.showable] using sh) ⟨.str _, H, I.tok _, ⟨_, rfl⟩, q⟩
  | str z =>
    obtain ⟨t, rfl⟩ := ru
    simp only [PyData.shown] at q sz
    exact call_repr_gives (PySem.typeIs_str s z t) F.slot_str_repr F.entry_str_repr (F.args_str_repr_1 _) (gives_str_repr z t) ⟨.str _, H, I.tok _, ⟨_, rfl⟩, q⟩ (hx := sz)
  | lst hs ha =>
    cases ru
    obtain ⟨as, rd⟩ := Dp.reads I _ _ _ (Dp.lst hs ha) rfl
    refine repr_of_reads' rd sh (PyData.noDict_hsm (PyData.hasDict_of_canLay _ lay)) hg (by have := hr.un; omega) (fun _ _ e => e) (fun h' u tk hk => ?_) sz
    exact ⟨.str _, H, I.kept (t' := tk) hk, ⟨u, rfl⟩, q⟩
  | tup hs ha =>
    cases ru
    obtain ⟨as, rd⟩ := Dp.reads I _ _ _ (Dp.tup hs ha) rfl
    refine repr_of_reads' rd sh (PyData.noDict_hsm (PyData.hasDict_of_canLay _ lay)) hg (by have := hr.un; omega) (fun _ _ e => e) (fun h' u tk hk => ?_) sz
    exact ⟨.str _, H, I.kept (t' := tk) hk, ⟨u, rfl⟩, q⟩
theorem listText_le {ds : List D} (h : ((PyData.shownAll (pys ds)).map fun t => t.length + 2).sum ≤ wts ds) : (listText (PyData.shownAll (pys ds))).length ≤ wts ds + 4 := by
  unfold listText
  rw [len_app]
  have j := textFrom_le (PyData.shownAll (pys ds)) 0 (Str.ofString "[")
  have e1 : (Str.ofString "[").length = 1 := by decide +kernel
  have e2 : (Str.ofString "]").length = 1 := by decide +kernel
  omega
theorem shown_leR {K : PySem.W.Frag} {B H : Hp} {d : D} {v : V} (h : d.shw = true) (r : Rr K B H d v) : d.py.shown.length ≤ d.wt := by
  cases r with
  | fz r => exact shown_le h r
  | ct c =>
    rename_i p
    generalize e : H p = o at c
    cases c with
    | @lst xs ds r =>
      simp only [D.py, PyData.shown, D.wt]
      exact listText_le (showns_le (by simpa [D.shw] using h) r)
    | dk _ _ => simp [D.shw] at h
    | dt _ _ => simp [D.shw] at h
theorem ca_repr {g : G0} : CaI g (.builtin "repr") reprD := by
  refine ⟨rRepr g.K, fun c X hX => by rw [← hX.eK]; exact call_reprD hX.room hX.gu, fun A B H vs env xs ds res Q S rr e q => ?_⟩
  unfold reprD at e
  split at e
  · rename_i d
    split at e
    · rename_i hd
      cases e
      simp only [Bool.and_eq_true] at hd
      obtain ⟨⟨h1, h2⟩, h3⟩ := hd
      obtain ⟨x, rfl, r⟩ := pr1 rr
      exact ⟨x, d.py, rfl, r.dp S.same (shw_py h1).2, (shw_py h1).1, r.lay, Nat.le_trans (shown_leR h1 r) (of_decide_eq_true h2), of_decide_eq_true h3, q B H _ (Same.refl _) (.im S (.txt _))⟩
    · cases e
  · cases e
end PD
namespace PD
variable [PD.TabL]
open PySem PySem.Spec PyProof.Rows L2

def mth (r : V → List V → Hp → VK → Prop) : List V → Hp → VK → Prop := fun xs H Q => match xs with
  | x :: ys => r x ys H Q
  | [] => False
/-- d is of the class T, and its methods are looked up there -/
def tyT (T : String) : D → Bool
  | .str _ => T == "str"
  | .lst _ => T == "list"
  | .sc _ => T == "list"
  | .dk _ => T == "dict"
  | .dt _ => T == "dict"
  | _ => false
theorem tyT_ok {K : PySem.W.Frag} {B H : Hp} {T : String} {d : D} {v : V} (s : Same B H) (h : tyT T d = true) (r : Rr K B H d v) : tyV K T v H := by
  cases d with
  | str x =>
    rw [r.str.1]
    exact eq_of_beq h
  | lst ds =>
    obtain ⟨a, xs, rfl, ha, _⟩ := r.lst s
    exact .inl ⟨eq_of_beq h, xs, .of ha⟩
  | sc ns =>
    obtain ⟨a, rfl, ha⟩ := r.sc s
    exact .inl ⟨eq_of_beq h, _, ha⟩
  | dk es =>
    obtain ⟨a, xs, rfl, ha, _⟩ := r.dk s
    exact .inr (.inr (.inl ⟨eq_of_beq h, .inl ⟨_, ha⟩⟩))
  | dt es =>
    obtain ⟨a, xs, rfl, ha, _⟩ := r.dt s
    exact .inr (.inr (.inl ⟨eq_of_beq h, .inr ⟨_, ha⟩⟩))
  | _ => cases h
def ckT (T : String) (r : Vl) : M Unit := fun e => match cnt e r with
  | some d => if tyT T d = true then some ((), e) else none
  | none => none
def eM (T : String) (f : List D → Option Vl) (m : M Vl) (ms : M (List Vl)) : M Vl := bd m fun r => bd (ckT T r.hold) fun _ => bd ms fun rs e => match cnts e (r.hold :: rs) with
  | some ds => match f ds with
    | some (.im d) => some (.im d, e)
    | some (.fr d) => some (.fr d, e)
    | _ => none
  | none => none
section
variable {K : PySem.W.Frag} {A : Anc}
theorem ckT_inv {T : String} {r : Vl} {e e' : Env} {u : Unit} (h : ckT T r e = some (u, e')) : ∃ d, cnt e r = some d ∧ tyT T d = true ∧ e' = e := by
  unfold ckT at h
  split at h
  · rename_i d hd
    split at h
    · rename_i ht
      cases h
      exact ⟨d, hd, ht, rfl⟩
    · cases h
  · cases h
theorem sx_meth {T : String} {r : V → List V → Hp → VK → Prop} {f : List D → Option Vl} {to : TE} {ta : TA} {m : M Vl} {ms : M (List Vl)} (hp : PrS K (mth r) f) (ho : SEX K A to m) (ha : SAX K A ta ms) : SEX K A (tBM K T r to ta) (eM T f m ms) := fun σ τ B H env pe env' res Q S hl e q => by
  obtain ⟨r0, e2, h1, f1⟩ := bd_inv e
  obtain ⟨u, e2', h2, f2⟩ := bd_inv f1
  obtain ⟨d, hd, ht, he⟩ := ckT_inv h2
  rw [he] at f2
  obtain ⟨rs, e3, h3, f3⟩ := bd_inv f2
  clear e f1 f2 h2
  refine ho σ τ B H env pe e2 r0 _ S hl h1 fun B1 H1 v s1 hl1 hv => ?_
  obtain ⟨B2, s2, S2, hh⟩ := hv.held
  refine ⟨tyT_ok S2.same ht (hh.rr S2 hl1 hd), ?_⟩
  refine ha σ τ B2 H1 e2 pe e3 rs _ S2 hl1 h3 fun B3 H3 vs s3 hl3 S3 hr => ?_
  split at f3
  · rename_i ds hc
    have rr := Hv.rrs S3 hl3 (.cons (hh.mono s3) hr) hc
    split at f3
    · rename_i d' hf
      cases f3
      exact hp A B3 H3 (σ ++ τ) (env' ++ pe) (v :: vs) ds _ Q S3 rr hf fun B4 H4 w s4 h4 => q B4 H4 w ((s1.trans s2).trans (s3.trans s4)) hl3 h4
    · rename_i d' hf
      cases f3
      exact hp A B3 H3 (σ ++ τ) (env' ++ pe) (v :: vs) ds _ Q S3 rr hf fun B4 H4 w s4 h4 => q B4 H4 w ((s1.trans s2).trans (s3.trans s4)) hl3 h4
    · cases f3
  · cases f3
end
section
variable {g : G0} {c : Ct} {o e : Expr} {es : List Expr} {m : M Vl} {ms : M (List Vl)} {pos apos : Pos} {T id : String} {name : Str} {f : List D → Option Vl}
structure MeI (g : G0) (T : String) (name : Str) (id : String) (f : List D → Option Vl) : Prop where
  pa : PlainAttrs T
  slot : Slot T name id
  ty : typeOf (.builtin id) = pure (.type "method_descriptor")
  run : ∃ r : V → List V → Hp → VK → Prop, (∀ c X, Cok g c X → MtR X id r) ∧ PrS g.K (mth r) f
theorem ee_meth (M : MeI g T name id f) (h : EE g c o m) (h' : EA g c (e :: es) ms) (pl : Pl e) (hb : ∀ env : PySem.Env, attributeBase o name env (eval o env) = eval o env)
    (hf : ∀ env : PySem.Env, ((backTo pos (starEach (e :: es) env)).all (fun x => !x.1) && (backToKw pos (keywordEach [] env)).all (fun x => x.1.isSome)
      && decide ((e :: es).length + ([] : List Keyword).length + (if ([] : List Keyword).isEmpty then 0 else 1) < 30)) = true) (hl : (apos.endLine == pos.line) = true) (hp : ∀ env : PySem.Env, (backTo pos (starEach es env)).any (·.1) = false) :
    EE g c (.Call (.Attribute o name apos) (e :: es) [] pos) (eM T f m ms) := by
  obtain ⟨t1, h1, k1⟩ := h
  obtain ⟨t2, h2, k2⟩ := h'
  obtain ⟨r, hr, hpr⟩ := M.run
  exact ⟨tBM g.K T r t1 t2, fun X hX => by
    rw [← hX.eK]
    exact pe_bm M.pa M.slot M.ty (hr c X hX) (h1 X hX) (h2 X hX) (hb _) (hf _) hl (pl es X.env) (hp _), fun A => sx_meth hpr (k1 A) (k2 A)⟩
/-- x.join(y) -/
def joinD : List D → Option Vl
  | [.str x, .lst ds] => match strsD ds with
    | some ys => if (decide ((ys.map (·.length)).sum + ys.length * x.length ≤ 16777216) && PyData.strOk (Txt.join x ys)) = true then some (.im (.str (Txt.join x ys))) else none
    | none => none
  | [.str x, .tup ds] => match strsD ds with
    | some ys => if (decide ((ys.map (·.length)).sum + ys.length * x.length ≤ 16777216) && PyData.strOk (Txt.join x ys)) = true then some (.im (.str (Txt.join x ys))) else none
    | none => none
  | _ => none
theorem me_join : MeI g "str" "join" "str.join" joinD := ⟨F.plainAttrs_str, F.slot_str_join, F.type_str_join, _, fun c X hX => by
    have := @mt_join X
    rw [hX.eK] at this
    exact this, fun A B H vs env xs ds res Q S rr e q => by
  unfold joinD at e
  split at e
  · rename_i x ds
    split at e
    · rename_i ys hy
      split at e
      · rename_i hx
        cases e
        simp only [Bool.and_eq_true] at hx
        obtain ⟨a, b, rfl, r1, r2⟩ := pr2 rr
        obtain ⟨p, us, rfl, hp, ru⟩ := r2.lst S.same
        rw [strsD_map hy] at ru
        exact ⟨x, p, ys, r1.str.1, rfl, .inl (by rw [← ru.strs]; exact .of hp), of_decide_eq_true hx.1, q B H _ (Same.refl _) (.im S (.str _ hx.2))⟩
      · cases e
    · cases e
  · rename_i x ds
    split at e
    · rename_i ys hy
      split at e
      · rename_i hx
        cases e
        simp only [Bool.and_eq_true] at hx
        obtain ⟨a, b, rfl, r1, r2⟩ := pr2 rr
        obtain ⟨p, us, rfl, hp, _, ru⟩ := r2.tup S.same
        rw [strsD_map hy] at ru
        exact ⟨x, p, ys, r1.str.1, rfl, .inr (by rw [← ru.strs]; exact .inl (.inl hp)), of_decide_eq_true hx.1, q B H _ (Same.refl _) (.im S (.str _ hx.2))⟩
      · cases e
    · cases e
  · cases e⟩
end

def mutAtD (e : Env) (i : Nat) : Option D := match e[i]? with
  | some (.ow d) => some d
  | some (.io _ d) => some d
  | _ => none
/-- the receiver's content and the arguments: the new content, the answer -/
def eU (T : String) (f : D → List D → Option (D × D)) (m : M Vl) (ms : M (List Vl)) : M Vl := bd m fun r => match r with
  | .bo i => bd (ckT T (.bo i)) fun _ => bd ms fun rs => bd (frzs rs) fun ds e => match mutAtD e i with
    | some d0 => match f d0 ds with
      | some (d', x) => some (.im x, putC e i d')
      | none => none
    | none => none
  | _ => fun _ => none
def MuS (K : PySem.W.Frag) (r : V → List V → Hp → VK → Prop) (f : D → List D → Option (D × D)) : Prop :=
  ∀ (B H : Hp) (p : Addr) (d0 d' x : D) (ds : List D) (xs : List V) (Q : VK), Same B H → Cont K B d0 (H p) → Rps K B ds xs → f d0 ds = some (d', x) → (∀ o v, Cont K B d' (some o) → Rp K B x v → Q v (upd H p o)) → r (.ref p) xs H Q
section
variable {K : PySem.W.Frag} {A : Anc}
theorem mutAtD_at {B H : Hp} {σ τ : L2.St} {env pe : Env} {i : Nat} {d0 : D} {v : V} (S : SR K A B H (σ ++ τ) (env ++ pe)) (hl : σ.length = env.length) (h : σ[i]? = some (some v)) (m : mutAtD env i = some d0) : ∃ p, v = .ref p ∧ Cont K B d0 (H p) ∧ ∀ d' o, Cont K B d' (some o) → SR K A B (upd H p o) (σ ++ τ) (putC env i d' ++ pe) := by
  have hj := (List.getElem?_eq_some_iff.mp h).1
  unfold mutAtD at m
  split at m
  · rename_i d he
    cases m
    have hi := (List.getElem?_eq_some_iff.mp he).1
    cases S.at hl he h with
    | ow b h0 c =>
      rename_i p
      refine ⟨p, rfl, c, fun d' o cc => ?_⟩
      have := S.write (i := i) (p := p) (sl := .ow d0) (sl' := .ow d') (d := d0) (by rw [List.getElem?_append_left hi]; exact he) (.inl ⟨rfl, rfl⟩) (by rw [List.getElem?_append_left hj]; exact h) cc
      rw [List.set_append_left _ _ hi] at this
      unfold putC
      rw [he]
      exact this
  · rename_i j d he
    cases m
    have hi := (List.getElem?_eq_some_iff.mp he).1
    cases S.at hl he h with
    | io h0 c =>
      rename_i p
      refine ⟨p, rfl, c, fun d' o cc => ?_⟩
      have := S.write (i := i) (p := p) (sl := .io j d0) (sl' := .io j d') (d := d0) (by rw [List.getElem?_append_left hi]; exact he) (.inr ⟨j, rfl, rfl⟩) (by rw [List.getElem?_append_left hj]; exact h) cc
      rw [List.set_append_left _ _ hi] at this
      unfold putC
      rw [he]
      exact this
  · cases m
theorem sx_mut {T : String} {r : V → List V → Hp → VK → Prop} {f : D → List D → Option (D × D)} {to : TE} {ta : TA} {m : M Vl} {ms : M (List Vl)} (hp : MuS K r f) (ho : SEX K A to m) (ha : SAX K A ta ms) : SEX K A (tBM K T r to ta) (eU T f m ms) := fun σ τ B H env pe env' res Q S hl e q => by
  obtain ⟨r0, e2, h1, f1⟩ := bd_inv e
  cases r0 with
  | bo i =>
    dsimp only at f1
    obtain ⟨u, e2', h2, f2⟩ := bd_inv f1
    obtain ⟨d, hd, ht, he⟩ := ckT_inv h2
    rw [he] at f2
    obtain ⟨rs, e3, h3, f3⟩ := bd_inv f2
    obtain ⟨ds, e4, h4, f4⟩ := bd_inv f3
    clear e f1 f2 f3 h2
    refine ho σ τ B H env pe e2 _ _ S hl h1 fun B1 H1 v s1 hl1 hv => ?_
    obtain ⟨B2, s2, S2, hh⟩ := hv.held
    refine ⟨tyT_ok S2.same ht (hh.rr S2 hl1 hd), ?_⟩
    refine ha σ τ B2 H1 e2 pe e3 rs _ S2 hl1 h3 fun B3 H3 vs s3 hl3 S3 hr => ?_
    obtain ⟨B4, s4, S4, hl4, rr⟩ := frzs_ok S3 hl3 hr h4
    split at f4
    · rename_i d0 hm
      split at f4
      · rename_i d' x hf
        cases f4
        obtain ⟨p, rfl, c, hw⟩ := mutAtD_at S4 hl4 hh hm
        refine hp B4 H3 p d0 d' x ds vs Q S4.same c rr hf fun o w c' r' => ?_
        exact q B4 _ w ((s1.trans s2).trans (s3.trans s4)) (by rw [putC_length]; exact hl4) ⟨hw d' o c', r'⟩
      · cases f4
    · cases f4
  | im d => cases f1
  | fr d => cases f1
end
section
variable {g : G0} {c : Ct} {o e : Expr} {es : List Expr} {m : M Vl} {ms : M (List Vl)} {pos apos : Pos} {T id : String} {name : Str} {f : D → List D → Option (D × D)}
structure MuI (g : G0) (T : String) (name : Str) (id : String) (f : D → List D → Option (D × D)) : Prop where
  pa : PlainAttrs T
  slot : Slot T name id
  ty : typeOf (.builtin id) = pure (.type "method_descriptor")
  run : ∃ r : V → List V → Hp → VK → Prop, (∀ c X, Cok g c X → MtR X id r) ∧ MuS g.K r f
theorem ee_mut (M : MuI g T name id f) (h : EE g c o m) (h' : EA g c (e :: es) ms) (pl : Pl e) (hb : ∀ env : PySem.Env, attributeBase o name env (eval o env) = eval o env)
    (hf : ∀ env : PySem.Env, ((backTo pos (starEach (e :: es) env)).all (fun x => !x.1) && (backToKw pos (keywordEach [] env)).all (fun x => x.1.isSome)
      && decide ((e :: es).length + ([] : List Keyword).length + (if ([] : List Keyword).isEmpty then 0 else 1) < 30)) = true) (hl : (apos.endLine == pos.line) = true) (hp : ∀ env : PySem.Env, (backTo pos (starEach es env)).any (·.1) = false) :
    EE g c (.Call (.Attribute o name apos) (e :: es) [] pos) (eU T f m ms) := by
  obtain ⟨t1, h1, k1⟩ := h
  obtain ⟨t2, h2, k2⟩ := h'
  obtain ⟨r, hr, hpr⟩ := M.run
  exact ⟨tBM g.K T r t1 t2, fun X hX => by
    rw [← hX.eK]
    exact pe_bm M.pa M.slot M.ty (hr c X hX) (h1 X hX) (h2 X hX) (hb _) (hf _) hl (pl es X.env) (hp _), fun A => sx_mut hpr (k1 A) (k2 A)⟩
def lessL (n : Nat) : Bool := decide (n < sizeLine)
def appendD : D → List D → Option (D × D)
  | .lst ds, [d] => if lessL ds.length = true then some (.lst (ds ++ [d]), .non) else none
  | _, _ => none
theorem cont_lst {K : PySem.W.Frag} {B : Hp} {ds : List D} {o : Option HO} (c : Cont K B (.lst ds) o) : ∃ xs, o = some (.lst xs) ∧ Rps K B ds xs := by
  cases c with
  | lst r => exact ⟨_, rfl, r⟩
theorem rps1 {K : PySem.W.Frag} {B : Hp} {d : D} {xs : List V} (r : Rps K B [d] xs) : ∃ x, xs = [x] ∧ Rp K B d x := by
  cases r with
  | cons r t =>
    cases t
    exact ⟨_, rfl, r⟩
theorem mu_append : MuI g "list" "append" "list.append" appendD := ⟨F.plainAttrs_list, F.slot_list_append, F.type_list_append, _, fun c X hX => mt_append, fun B H p d0 d' x ds xs Q s c r e q => by
  unfold appendD at e
  split at e
  · rename_i ds0 d
    split at e
    · rename_i hl
      cases e
      obtain ⟨ys, hy, rr⟩ := cont_lst c
      obtain ⟨v, rfl, rv⟩ := rps1 r
      exact ⟨p, ys, v, rfl, rfl, hy, by rw [← rr.length]; exact of_decide_eq_true hl, q _ _ (.lst (rr.app (.one rv))) .non⟩
    · cases e
  · cases e⟩
def reverseD : D → List D → Option (D × D)
  | .lst ds, [] => some (.lst ds.reverse, .non)
  | _, _ => none
def extendD : D → List D → Option (D × D)
  | .lst ds, [.lst es] => if small (ds.length + es.length) = true then some (.lst (ds ++ es), .non) else none
  | _, _ => none
theorem mu_extend : MuI g "list" "extend" "list.extend" extendD := ⟨F.plainAttrs_list, F.slot_list_extend, F.type_list_extend, _, fun c X hX => mt_extend, fun B H p d0 d' x ds xs Q s c r e q => by
  unfold extendD at e
  split at e
  · rename_i ds0 d
    split at e
    · rename_i hl
      cases e
      obtain ⟨ys, hy, rr⟩ := cont_lst c
      obtain ⟨v, rfl, rv⟩ := rps1 r
      cases rv with
      | lst h r2 => exact ⟨p, _, ys, _, rfl, rfl, hy, s _ _ h, by rw [← rr.length, ← r2.length]; exact of_decide_eq_true hl, q _ _ (.lst (rr.app r2)) .non⟩
    · cases e
  · cases e⟩
end

def gS (f : D → D → D → Option D) (m mi : M Vl) : Vl → M Unit := fun r => bd (frz r.hold) fun d => bd m fun r0 => match r0 with
  | .bo i => bd mi fun r1 e => match mutAtD e i, cnt e r1.hold with
    | some d0, some k => match f d0 k d with
      | some d' => some ((), putC e i d')
      | none => none
    | _, _ => none
  | _ => fun _ => none
def PutS (K : PySem.W.Frag) (t : TSet) (f : D → D → D → Option D) : Prop :=
  ∀ (B H : Hp) (p : Addr) (k v : V) (d0 dk d d' : D) (Q : Hp → Prop), Same B H → Cont K B d0 (H p) → Rr K B H dk k → Rp K B d v → f d0 dk d = some d' → (∀ o, Cont K B d' (some o) → Q (upd H p o)) → t (.ref p) k v H Q
theorem sg_sub {K : PySem.W.Frag} {A : Anc} {to ti : TE} {t : TSet} {f : D → D → D → Option D} {m mi : M Vl} (hp : PutS K t f) (ho : SEX K A to m) (hi : SEX K A ti mi) : SGX K A [] (gSub to ti t) (gS f m mi) := fun σ τ B H env pe env' r v Q hv hl e q => by
  obtain ⟨B0, s0, S0, hh0⟩ := hv.held
  obtain ⟨d, e1, h1, f1⟩ := bd_inv e
  obtain ⟨B1, s1, S1, hl1, rd⟩ := frz_ok S0 hl hh0 h1
  obtain ⟨r0, e2, h2, f2⟩ := bd_inv f1
  cases r0 with
  | bo i =>
    dsimp only at f2
    obtain ⟨r1, e3, h3, f3⟩ := bd_inv f2
    clear e f1 f2
    refine ho σ τ B1 H e1 pe e2 _ _ S1 hl1 h2 fun B2 H2 o s2 hl2 ho2 => ?_
    obtain ⟨S2, hi2⟩ := ho2
    refine hi σ τ B2 H2 e2 pe e3 _ _ S2 hl2 h3 fun B3 H3 k s3 hl3 hk => ?_
    obtain ⟨B4, s4, S4, hh⟩ := hk.held
    split at f3
    · rename_i d0 dk hm hc
      split at f3
      · rename_i d' hf
        cases f3
        obtain ⟨p, rfl, c, hw⟩ := mutAtD_at S4 hl3 hi2 hm
        refine hp B4 H3 p k v d0 dk d d' _ S4.same c (hh.rr S4 hl3 hc) (rd.mono ((s2.trans s3).trans s4)) hf fun o c' => ?_
        exact q σ B4 _ ((s0.trans s1).trans ((s2.trans s3).trans s4)) (by rw [putC_length]; exact hl3) (fun _ _ => rfl) (hw d' o c')
      · cases f3
    · cases f3
  | im d => cases f2
  | fr d => cases f2
def SeI (g : G0) (f : D → D → D → Option D) : Prop := ∃ t : TSet, (∀ c X, Cok g c X → PSet X t) ∧ PutS g.K t f
section
variable {g : G0} {c : Ct} {o i : Expr} {m mi : M Vl} {pos : Pos} {f : D → D → D → Option D}
theorem eg_sub (M : SeI g f) (h : EE g c o m) (h' : EE g c i mi) (ha : ∀ env v, assign (.Subscript o i pos) env v = (do
      let ov ← holding [v] (eval o env)
      let iv ← holding [v, ov] (eval i env)
      standAt pos
      holding [v, ov, iv] (setItem ov iv v)
      release [v, ov, iv] [])) : EG g c (.Subscript o i pos) [] (gS f m mi) := by
  obtain ⟨t1, h1, k1⟩ := h
  obtain ⟨t2, h2, k2⟩ := h'
  obtain ⟨t, ht, hp⟩ := M
  exact ⟨gSub t1 t2 t, fun X hX => pg_sub (h1 X hX) (h2 X hX) (ht c X hX) (ha _), fun A => sg_sub hp (k1 A) (k2 A)⟩
def setD : D → D → D → Option D
  | .lst ds, .int i, d => match ixN ds.length i with
    | some j => some (.lst (ds.set j d))
    | none => none
  | _, _, _ => none
end
end PD
namespace PD
variable [PD.TabL]
open PySem PySem.Spec PyProof.Rows L2

section
variable {K : PySem.W.Frag} {A : Anc}
end
section
variable {g : G0} {c : Ct} {a b d : Expr} {ms : M (List Vl)} {pos px py pz pt : Pos} {kt k2 pt2}
end
end PD
namespace PD
variable [PD.TabL]
open PySem PySem.Spec PyProof.Rows L2
section
variable {g : G0} {c : Ct} {a b d : Expr} {ma mb mc : M Vl} {pos : Pos}
theorem et_cmp {op : CmpOp} {f : List D → Option Vl} (ho : OpI g (compareOp op) f) (h : EE g c a ma) (h' : EE g c b mb) (hm : behindInMarks op b = false) : ET g c (.Compare a [op] [b] pos) (mB (eP f (cA ma (cA mb cN)))) := by
  obtain ⟨r, o1, o2⟩ := ho
  obtain ⟨t, h1, h2⟩ := h
  obtain ⟨u, h3, h4⟩ := h'
  exact ⟨tTest (tOp r t u), fun X hX => pt_cmpR (o1 c X hX) (h1 X hX) (h3 X hX) hm, fun A => st_val (sx_op o2 (h2 A) (h4 A))⟩
end
end PD
namespace PD
variable [PD.TabL]
open PySem PySem.Spec PyProof.Rows L2
theorem small_lit {n : Nat} (h : n ≤ 16777216) : small n = true := decide_eq_true h
theorem at_nat {α : Type} {l : List α} {j : Nat} {a : α} (h : l[j]? = some a) : L2.atI l (j : Int) = some a := atI_nat h
theorem atI_in {α : Type} {l : List α} {i : Int} (h0 : 0 ≤ i) (h1 : i < l.length) : ∃ a ∈ l, L2.atI l i = some a := by
  obtain ⟨j, rfl⟩ := Int.eq_ofNat_of_zero_le h0
  have hj : j < l.length := by omega
  exact ⟨l[j], List.getElem_mem hj, at_nat (List.getElem?_eq_getElem hj)⟩
def As (n : Nat) (x : Str) : Prop := x.length ≤ n ∧ ∀ c ∈ x.cps.toList, c < 128
theorem As.mono {n m : Nat} {x : Str} (h : As n x) (hn : n ≤ m) : As m x := ⟨Nat.le_trans h.1 hn, h.2⟩
theorem As.app {n m : Nat} {x y : Str} (h : As n x) (h' : As m y) : As (n + m) (x ++ y) := by
  refine ⟨by rw [len_app]; have := h.1; have := h'.1; omega, fun c hc => ?_⟩
  have : c ∈ (x.cps ++ y.cps).toList := hc
  rw [Array.toList_append, List.mem_append] at this
  exact this.elim (h.2 c) (h'.2 c)
theorem As.cut {n : Nat} {x : Str} (h : As n x) (lo hi : Option Int) : As n (cutS x lo hi) := by
  refine ⟨?_, fun c hc => ?_⟩
  · have h1 : x.cps.size ≤ n := h.1
    show (((x.cps.toList.drop (HT.sIx x.length 0 lo)).take (HT.sIx x.length x.length hi - HT.sIx x.length 0 lo)).toArray).size ≤ n
    simp
    omega
  · have hc : c ∈ (x.cps.toList.drop (HT.sIx x.length 0 lo)).take (HT.sIx x.length x.length hi - HT.sIx x.length 0 lo) := by simpa [cutS] using hc
    exact h.2 c (List.mem_of_mem_drop (List.mem_of_mem_take hc))
theorem As.ok {n : Nat} {x : Str} (h : As n x) : PyData.strOk x = true := ok_mem.mpr fun c hc => Nat.lt_trans (h.2 c hc) (by decide)
theorem As.one {c n : Nat} (h : c < 128) (hn : 1 ≤ n) : As n ⟨#[c]⟩ := ⟨hn, fun d hd => by
  have : d = c := by simpa using hd
  omega⟩
/-- single signs joined -/
theorem join_signs : ∀ cs : List Nat, Str.join "" (cs.map fun c => (⟨#[c]⟩ : Str)) = ⟨cs.toArray⟩
  | [] => rfl
  | [c] => rfl
  | c :: d :: r => by
    have ih := join_signs (d :: r)
    show (⟨#[c]⟩ : Str) ++ "" ++ Str.join "" ((d :: r).map fun c => (⟨#[c]⟩ : Str)) = _
    rw [ih]
    show (⟨(#[c] ++ (Str.ofString "").cps) ++ (d :: r).toArray⟩ : Str) = _
    have : (Str.ofString "").cps = #[] := by decide +kernel
    rw [this]
    simp
theorem txt_join_signs (cs : List Nat) : Txt.join "" (cs.map fun c => (⟨#[c]⟩ : Str)) = ⟨cs.toArray⟩ := (StrLaws.glued_eq_join _ _).trans (join_signs cs)
end PD
namespace PD
variable [PD.TabL]
open PySem PySem.Spec PyProof.Rows L2

def sortOk (ds : List D) : Bool := arePy ds && ((pys ds).all fun d => (pys ds).all fun d' => PySem.W.alike d d') && depsB 50 ds && small ds.length &&
  (ds.all (fun d => match d with | .tup (_ :: _) => true | _ => false) || ds.all (fun d => match d with | .tup _ => false | .tp _ => false | .non => false | _ => true))
def sortL (ds : List D) : List D := ds.mergeSort fun a b => PySem.W.dataLe false D.py a b
def sortedD : List D → Option Vl
  | [.lst ds] => if sortOk ds = true then some (.fr (.lst (sortL ds))) else none
  | _ => none
def rSortedD (K : PySem.W.Frag) : List V → Hp → VK → Prop := fun xs H Q => ∃ (a : Addr) (bs : List (V × PyData)), xs = [.ref a] ∧ SqL K H a (bs.map (·.1)) ∧ (∀ b ∈ bs, Dp K H b.1 b.2) ∧ PySem.W.AllAlike (bs.map (·.2)) ∧ PySem.W.Sortable (bs.map (·.2)) ∧ bs.length ≤ sizeLine ∧ (∀ b ∈ bs, b.2.depth ≤ 50) ∧
  ∀ p, H p = none → Q (.ref p) (upd H p (.lst ((bs.mergeSort (PySem.W.dataLe false (·.2))).map (·.1))))
section
variable {X : Cx}
theorem each_of {pins : List (Addr × Obj)} {σ : L2.St} {H : Hp} {s : Shared} (I : Inv X pins σ H s) : ∀ {bs : List (V × PyData)} {us : List Value}, Vals (bs.map (·.1)) us → (∀ b ∈ bs, Dp X.K H b.1 b.2) →
    PySem.W.EachIs (fun (v : Value) (b : V × PyData) => RelV b.1 v) us bs ∧ PySem.W.EachIs (fun (v : Value) (b : V × PyData) => ∃ as, Reads s.heap v b.2 as) us bs
  | [], _, .nil, _ => ⟨.nil, .nil⟩
  | b :: bs, _, .cons r t, h => by
    obtain ⟨h1, h2⟩ := each_of I (bs := bs) t fun b hb => h b (List.mem_cons_of_mem _ hb)
    exact ⟨.cons r h1, .cons (Dp.reads I _ _ _ (h b (List.mem_cons_self ..)) r) h2⟩
theorem vals_of_each : ∀ {us : List Value} {bs : List (V × PyData)}, PySem.W.EachIs (fun (v : Value) (b : V × PyData) => RelV b.1 v) us bs → Vals (bs.map (·.1)) us
  | _, _, .nil => .nil
  | _, _, .cons r t => .cons r (vals_of_each t)
theorem cr_sortedD {k : Nat} (hr : Room k X.A) : CallR X (.builtin "sorted") (rSortedD X.K) := by
  intro pins s σ H xs us Q I r h
  obtain ⟨a, bs, rfl, hs, hd, al, so, hz, dp, q⟩ := h
  obtain ⟨its, rv, hl, _⟩ := I.list hs
  rw [Vals.ref1 r]
  obtain ⟨h1, h2⟩ := each_of I rv hd
  refine PySem.W.sorted_data (enc := fun b : V × PyData => b.2) hl.isList h1 h2 al so hz (fun b hb => ?_) fun out hlen ho => ?_
  · have := dp b hb
    have := hr.un
    omega
  · obtain ⟨ep, he'⟩ := PyProof.Rows.sortedAll_at s.heap its out.toArray
    have hv := vals_of_each ho
    have hlen2 : ((bs.mergeSort (PySem.W.dataLe false (·.2))).map (·.1)).length ≤ sizeLine := by
      rw [List.length_map, (List.mergeSort_perm _ _).length_eq]
      exact hz
    exact ⟨.ref _, upd H (s.heap.objs.size + 1) (.lst ((bs.mergeSort (PySem.W.dataLe false (·.2))).map (·.1))), I.laid (t' := s.toks) (fun _ _ => PyProof.Rows.sortedAll_old) (Nat.le_succ _) ⟨hlen2, out, ep, hv, he'⟩, rfl, q _ (I.hok.fresh (Nat.le_succ _))⟩
end
theorem rps_zip {K : PySem.W.Frag} {B H : Hp} (s : Same B H) : ∀ {ds : List D} {vs : List V}, Rps K B ds vs → arePy ds = true → ∃ zs : List (V × D), zs.map (·.1) = vs ∧ zs.map (·.2) = ds ∧ ∀ z ∈ zs, Rp K B z.2 z.1 ∧ Dp K H z.1 z.2.py
  | _, _, .nil, _ => ⟨[], rfl, rfl, fun _ h => by simp at h⟩
  | d :: ds, v :: vs, .cons r t, n => by
    have n : d.isPy = true ∧ arePy ds = true := by simpa [arePy] using n
    obtain ⟨zs, h1, h2, h3⟩ := rps_zip s t n.2
    refine ⟨(v, d) :: zs, by rw [List.map_cons, h1], by rw [List.map_cons, h2], fun z hz => ?_⟩
    rcases List.mem_cons.mp hz with rfl | hz
    · exact ⟨r, r.dp s n.1⟩
    · exact h3 z hz
theorem rps_of_zip {K : PySem.W.Frag} {B : Hp} : ∀ {zs : List (V × D)}, (∀ z ∈ zs, Rp K B z.2 z.1) → Rps K B (zs.map (·.2)) (zs.map (·.1))
  | [], _ => .nil
  | z :: zs, h => .cons (h z (List.mem_cons_self ..)) (rps_of_zip fun y hy => h y (List.mem_cons_of_mem _ hy))
theorem depthAll_mem : ∀ {ds : List PyData} {d : PyData}, d ∈ ds → d.depth ≤ PyData.depthAll ds
  | x :: xs, d, h => by
    simp only [PyData.depthAll]
    rcases List.mem_cons.mp h with rfl | h
    · omega
    · have := depthAll_mem h
      omega
theorem ca_sorted {g : G0} : CaI g (.builtin "sorted") sortedD := by
  refine ⟨rSortedD g.K, fun c X hX => by rw [← hX.eK]; exact cr_sortedD hX.room, fun A B H vs env xs ds res Q S rr e q => ?_⟩
  unfold sortedD at e
  split at e
  · rename_i ds0
    split at e
    · rename_i ok
      cases e
      unfold sortOk at ok
      simp only [Bool.and_eq_true] at ok
      obtain ⟨⟨⟨⟨o1, o2⟩, o3⟩, o4⟩, o5⟩ := ok
      obtain ⟨x, rfl, r1⟩ := pr1 rr
      obtain ⟨a, us, rfl, ha, ra⟩ := r1.lst S.same
      obtain ⟨zs, z1, z2, z3⟩ := rps_zip S.same ra o1
      subst z1 z2
      have ep : (zs.map fun z => (z.1, z.2.py)).map (·.2) = pys (zs.map (·.2)) := by
        rw [pys_map, List.map_map, List.map_map]
        rfl
      refine ⟨a, zs.map fun z => (z.1, z.2.py), rfl, ?_, fun b hb => ?_, ?_, ?_, ?_, fun b hb => ?_, fun p hp => ?_⟩
      · rw [List.map_map]
        exact .of ha
      · obtain ⟨z, hz, rfl⟩ := List.mem_map.mp hb
        exact (z3 z hz).2
      · rw [ep]
        intro d hd d' hd'
        exact List.all_eq_true.mp (List.all_eq_true.mp o2 d hd) d' hd'
      · rw [ep, pys_map]
        rcases Bool.or_eq_true_iff.mp o5 with o | o
        · refine .inl fun d hd => ?_
          obtain ⟨e, he, rfl⟩ := List.mem_map.mp hd
          have := List.all_eq_true.mp o e he
          split at this
          · rename_i x r
            exact ⟨x.py, pys r, by simp [D.py, pys]⟩
          · cases this
        · refine .inr fun d hd => ?_
          obtain ⟨e, he, rfl⟩ := List.mem_map.mp hd
          have := List.all_eq_true.mp o e he
          have hpy := o1
          rw [arePy_all] at hpy
          have hpe := List.all_eq_true.mp hpy e he
          cases e <;> simp [D.py, D.isPy] at this hpe ⊢
      · rw [List.length_map]
        have := of_decide_eq_true o4
        rw [List.length_map] at this
        exact this
      · obtain ⟨z, hz, rfl⟩ := List.mem_map.mp hb
        have h1 := of_decide_eq_true o3
        have h2 : z.2.py ∈ pys (zs.map (·.2)) := by
          rw [pys_map]
          exact List.mem_map.mpr ⟨z.2, List.mem_map.mpr ⟨z, hz, rfl⟩, rfl⟩
        have h3 := depthAll_mem h2
        show z.2.py.depth ≤ 50
        omega
      · have e1 : ((zs.map fun z => (z.1, z.2.py)).mergeSort (PySem.W.dataLe false (·.2))) = (zs.mergeSort (PySem.W.dataLe false fun z => z.2.py)).map fun z => (z.1, z.2.py) :=
          (List.map_mergeSort (f := fun z : V × D => (z.1, z.2.py)) (fun a _ b _ => rfl)).symm
        have e2 : sortL (zs.map (·.2)) = (zs.mergeSort (PySem.W.dataLe false fun z => z.2.py)).map (·.2) :=
          (List.map_mergeSort (f := fun z : V × D => z.2) (fun a _ b _ => rfl)).symm
        rw [e1, List.map_map]
        have hr : Rps g.K B (sortL (zs.map (·.2))) ((zs.mergeSort (PySem.W.dataLe false fun z => z.2.py)).map (·.1)) := by
          rw [e2]
          exact rps_of_zip fun z hz => (z3 z ((List.mergeSort_perm _ _).mem_iff.mp hz)).1
        exact q B _ _ (Same.refl _) (.lst S hp hr)
    · cases e
  · cases e
end PD
namespace PD
variable [PD.TabL]
open PySem PySem.Spec PyProof.Rows L2

def zipD (xs ys : List D) : List D := List.zipWith (fun x y => D.tup [x, y]) xs ys
def mZip (ms : M (List Vl)) : M (List D) := bd ms fun rs => bd (frzs rs) fun ds => match ds with
  | [.lst a, .lst b] => rt (zipD a b)
  | [.tup a, .tup b] => rt (zipD a b)
  | [.tp a, .tp b] => rt (zipD a b)
  | [.tp a, .tup b] => rt (zipD a b)
  | [.tup a, .tp b] => rt (zipD a b)
  | _ => fun _ => none
def enumD (k : Nat) : List D → List D
  | [] => []
  | d :: ds => .tup [.int (k : Nat), d] :: enumD (k + 1) ds
def mEnum (m : M Vl) : M (List D) := bd m fun r => bd (frz r.hold) fun d => match d with
  | .lst ds => rt (enumD 0 ds)
  | _ => fun _ => none
theorem enumD_get : ∀ {ds : List D} {k i : Nat}, (enumD k ds)[i]? = (ds[i]?).map fun d => .tup [.int ((k + i : Nat) : Int), d]
  | [], k, i => by simp [enumD]
  | d :: ds, k, 0 => by simp [enumD]
  | d :: ds, k, i + 1 => by
    show (enumD (k + 1) ds)[i]? = _
    rw [enumD_get, List.getElem?_cons_succ, show k + 1 + i = k + (i + 1) by omega]
theorem enumD_len : ∀ {ds : List D} {k : Nat}, (enumD k ds).length = ds.length
  | [], _ => rfl
  | d :: ds, k => by
    show (enumD (k + 1) ds).length + 1 = _
    rw [enumD_len, List.length_cons]
section
variable {K : PySem.W.Frag} {A : Anc}
theorem wd_enum {B0 : Hp} {a : Addr} {xs : List V} {ds : List D} (h : SqL K B0 a xs) (r : Rps K B0 ds xs) : WD K (Ite K a) B0 (enumD 0 ds) := by
  have hl := r.length
  refine ⟨fun i H B hi s1 s2 => ?_, fun H B s1 s2 => ?_, fun i H B x H' hi s1 s2 y => ?_⟩
  · rw [enumD_len, hl] at hi
    exact ⟨xs, xs[i], sameL s2 (sameL s1 h), List.getElem?_eq_getElem hi⟩
  · exact ⟨xs, sameL s2 (sameL s1 h), by rw [enumD_len, hl]; exact Nat.le_refl _⟩
  · obtain ⟨T, u, rfl, nT, rfl, f1⟩ := y
    have e1 := f1 _ (sameL s2 (sameL s1 h))
    obtain ⟨d, g1, r1⟩ := r.getV e1
    refine ⟨.tup [.int (i : Nat), d], by rw [enumD_get, g1, Nat.zero_add]; rfl, .inr (.inl ⟨T, _, _, rfl, nT, rfl, rfl, .cons (.int _) (.cons (r1.mono s1) .nil)⟩)⟩
theorem si_enum {t : TE} {m : M Vl} (h : SEX K A t m) : SIX K A (iEnum K (tCons t tNil)) (mEnum m) := fun σ τ B H env pe env' ds R S hl e q => by
  obtain ⟨r, e1, h1, f1⟩ := bd_inv e
  obtain ⟨d, e2, h2, f2⟩ := bd_inv f1
  refine h σ τ B H env pe e1 r _ S hl h1 fun B1 H1 v s1 hl1 hv => ?_
  obtain ⟨B2, s2, S2, hh⟩ := hv.held
  obtain ⟨B3, s3, S3, hl3, rr⟩ := frz_ok S2 hl1 hh h2
  split at f2
  · cases f2
    cases rr with
    | lst p1 r1 => exact ⟨_, _, rfl, .of (S3.same _ _ p1), q B3 H1 _ ((s1.trans s2).trans s3) hl3 S3 (wd_enum (.of p1) r1)⟩
  · cases f2
end
section
variable {g : G0} {c : Ct} {a b : Expr} {m n : M Vl} {ms : M (List Vl)} {p pos tpos : Pos} {elts : List Expr} {kk : Nat}
theorem ei_enum (hg : GlC c "enumerate") (hm : g.mg "enumerate" = none) (h : EE g c a m) (pl : Pl a) : EI g c (.Tuple elts kk tpos) (.Call (.Name "enumerate" p) [a] [] pos) (mEnum m) := by
  obtain ⟨t, h1, h2⟩ := h
  exact ⟨iEnum g.K (tCons t tNil), fun X hX => by
    rw [← hX.eK]
    exact pi_enum (gl_of hX hg) (by rw [hX.em]; exact hm) (pa_cons (h1 X hX) pa_nil (pl [] X.env)) (by rw [pl [] X.env]; rfl), fun A => si_enum (h2 A)⟩
end

def hb : Vl → M Vl
  | .bo i => bd (frz (.bo i)) fun d => rt (.im d)
  | r => rt r
def sPF (i j : Nat) (m n : M Vl) : SM := fun e => match bd m hb e with
  | some (r1, e1) => match bd n hb e1 with
    | some (r2, e2) => match gN j r2 e2 with
      | some (_, e3) => match gN i r1 e3 with
        | some (_, e4) => some (.nx, e4)
        | none => none
      | none => none
    | none => none
  | none => none
def sPF3 (i j l : Nat) (m n o : M Vl) : SM := fun e => match bd m hb e with
  | some (r1, e1) => match bd n hb e1 with
    | some (r2, e2) => match bd o hb e2 with
      | some (r3, e3) => match gN l r3 e3 with
        | some (_, e4) => match gN j r2 e4 with
          | some (_, e5) => match gN i r1 e5 with
            | some (_, e6) => some (.nx, e6)
            | none => none
          | none => none
        | none => none
      | none => none
    | none => none
  | none => none
section
variable {K : PySem.W.Frag} {A : Anc}
/-- what waits for its slot -/
inductive Pd (K : PySem.W.Frag) (B : Hp) : Vl → V → L2.St → Env → Prop
  | im {d : D} {v : V} : Rp K B d v → Pd K B (.im d) v [] []
  | fr {d : D} {v : V} : Pd K B (.fr d) v [some v] [.ow d]
theorem Pd.mono {B B' : Hp} {r : Vl} {v : V} {τ : L2.St} {pe : Env} (s : Same B B') (h : Pd K B r v τ pe) : Pd K B' r v τ pe := by
  cases h with
  | im r => exact .im (r.mono s)
  | fr => exact .fr
theorem Pd.vr {B H : Hp} {σ τ0 τ : L2.St} {env pe0 pe : Env} {r : Vl} {v : V} (h : Pd K B r v τ pe) (S : SR K A B H (σ ++ (τ0 ++ τ)) (env ++ (pe0 ++ pe))) : VR K A B H σ τ0 env pe0 r v := by
  cases h with
  | im r => exact ⟨by simpa using S, r⟩
  | fr =>
    show SR K A B H (σ ++ τ0 ++ [some v]) (env ++ pe0 ++ [.ow _])
    rw [List.append_assoc, List.append_assoc]
    exact S
theorem hb_ok {B H : Hp} {σ τ : L2.St} {env pe env' : Env} {r r' : Vl} {v : V} (h : VR K A B H σ τ env pe r v) (hl : σ.length = env.length) (e : hb r env = some (r', env')) :
    ∃ B' τ' pe', Same B B' ∧ σ.length = env'.length ∧ Pd K B' r' v τ' pe' ∧ SR K A B' H (σ ++ (τ ++ τ')) (env' ++ (pe ++ pe')) := by
  cases r with
  | im d =>
    cases e
    exact ⟨B, [], [], Same.refl _, hl, .im h.2, by simpa using h.1⟩
  | fr d =>
    cases e
    have h : SR K A B H (σ ++ τ ++ [some v]) (env ++ pe ++ [.ow d]) := h
    rw [List.append_assoc, List.append_assoc] at h
    exact ⟨B, [some v], [.ow d], Same.refl _, hl, .fr, h⟩
  | bo i =>
    obtain ⟨d, e1, h1, f1⟩ := bd_inv e
    cases f1
    obtain ⟨B1, s1, S1, hl1, rr⟩ := frz_ok h.1 hl (show Hv K B σ (.bo i) v from h.2) h1
    exact ⟨B1, [], [], s1, hl1, .im rr, by simpa using S1⟩
theorem ss_pf {i j : Nat} {t1 t2 : TE} {m n : M Vl} (hij : i ≠ j) (h1 : SEX K A t1 m) (h2 : SEX K A t2 n) : SSX K A (tPar i j (tCons t1 (tCons t2 tNil))) (sPF i j m n) := fun σ B H env env' fl E S e q => by
  unfold sPF at e
  split at e
  · rename_i r1 e1 g1
    split at e
    · rename_i r2 e2 g2
      split at e
      · rename_i e3 g3
        split at e
        · rename_i e4 g4
          cases e
          obtain ⟨q1, f1, a1, b1⟩ := bd_inv g1
          obtain ⟨q2, f2, a2, b2⟩ := bd_inv g2
          refine h1 σ [] B H env [] f1 q1 _ S.nil_app S.len a1 fun B1 H1 v s1 hl1 hv => ?_
          obtain ⟨B2, τ1, pe1, s2, hl2, P1, S2⟩ := hb_ok hv hl1 b1
          refine h2 σ ([] ++ τ1) B2 H1 e1 ([] ++ pe1) f2 q2 _ S2 hl2 a2 fun B3 H3 w s3 hl3 hw => ?_
          obtain ⟨B4, τ2, pe2, s4, hl4, P2, S4⟩ := hb_ok hw hl3 b2
          refine ⟨v, w, rfl, ?_⟩
          rw [List.set_comm _ _ hij]
          refine sg_name (K := K) (A := A) σ ([] ++ τ1) B4 H3 e2 ([] ++ pe1) e3 r2 w (fun σ' H' => E.nx (σ'.set i (some v)) H') (P2.vr S4) hl4 g3 fun σ1 B5 H5 s5 hl5 _ S5 => ?_
          have P1' := P1.mono ((s3.trans s4).trans s5)
          exact sg_name (K := K) (A := A) σ1 [] B5 H5 e3 [] _ r1 v E.nx (P1'.vr S5) hl5 g4 fun σ2 B6 H6 s6 hl6 _ S6 => q σ2 B6 H6 (((s1.trans s2).trans (s3.trans s4)).trans (s5.trans s6)) S6.app_nil
        · cases e
      · cases e
    · cases e
  · cases e
end
section
variable {g : G0} {c : Ct} {a b d : Expr} {m n o : M Vl} {pos px py pz pt : Pos} {kt k2 pt2}
theorem es_pf {i j : Nat} {x y : Str} (hi : c.N[i]? = some x) (hj : c.N[j]? = some y) (hij : i ≠ j) (hx : c.sc.names.lookup x = some .local) (hy : c.sc.names.lookup y = some .local) (h : EE g c a m) (h' : EE g c b n) (pl : Pl a) (pl2 : Pl b)
    (hw : ∀ env : PySem.Env, env.scope = c.sc → swappedStores [.Tuple [.Name x px, .Name y py] kt pt] (.Tuple [a, b] k2 pt2) env = pure (some [x, y]))
    (hs : ∀ env : PySem.Env, swapsWithSole [.Tuple [.Name x px, .Name y py] kt pt] (.Tuple [a, b] k2 pt2) pos.line env = pure false) :
    ES g c (.Assign [.Tuple [.Name x px, .Name y py] kt pt] (.Tuple [a, b] k2 pt2) pos) (sPF i j m n) := by
  obtain ⟨t, h1, k1⟩ := h
  obtain ⟨u, h2, k2⟩ := h'
  exact ⟨_, fun X hX => ps_par hX.calm hX.nd (by rw [hX.eN]; exact hi) (by rw [hX.eN]; exact hj) hij (by rw [hX.es]; exact hx) (by rw [hX.es]; exact hy) (pa_cons (h1 X hX) (pa_cons (h2 X hX) pa_nil (pl2 [] X.env)) (pl [b] X.env)) (hw X.env hX.es) (hs X.env), fun A => ss_pf hij (k1 A) (k2 A)⟩
end
end PD
namespace PD
variable [PD.TabL]
open PySem PySem.Spec PyProof.Rows L2

def putD {κ : Type} [DecidableEq κ] (es : List (κ × D)) (k : κ) (d : D) : List (κ × D) :=
  if (es.any fun e => decide (e.1 = k)) = true then es.map (fun e => if e.1 = k then (e.1, d) else e) else es ++ [(k, d)]
def mergeD (es more : List (Key × D)) : List (Key × D) := more.foldl (fun acc e => putD acc e.1 e.2) es
section
variable {K : PySem.W.Frag} {B H : Hp} {κ : Type} [DecidableEq κ]
def Kp (K : PySem.W.Frag) (B : Hp) (es : List (κ × D)) (kvs : List (κ × V)) : Prop := Paired (fun e kv => e.1 = kv.1 ∧ Rp K B e.2 kv.2) es kvs
theorem kp_of : ∀ {es : List (κ × D)} {kvs : List (κ × V)}, es.map (·.1) = kvs.map (·.1) → Rps K B (es.map (·.2)) (kvs.map (·.2)) → Kp K B es kvs
  | [], [], _, _ => .nil
  | [], _ :: _, h, _ => by simp at h
  | _ :: _, [], h, _ => by simp at h
  | e :: es, kv :: kvs, h, .cons r t => by
    have h : e.1 = kv.1 ∧ es.map (·.1) = kvs.map (·.1) := by simpa using h
    exact .cons ⟨h.1, r⟩ (kp_of h.2 t)
theorem kp_to : ∀ {es : List (κ × D)} {kvs : List (κ × V)}, Kp K B es kvs → es.map (·.1) = kvs.map (·.1) ∧ Rps K B (es.map (·.2)) (kvs.map (·.2))
  | _, _, .nil => ⟨rfl, .nil⟩
  | e :: es, kv :: kvs, .cons h t => by
    obtain ⟨h1, h2⟩ := kp_to (es := es) (kvs := kvs) t
    exact ⟨by rw [List.map_cons, List.map_cons, h.1, h1], .cons h.2 h2⟩
theorem kp_any {k : κ} : ∀ {es : List (κ × D)} {kvs : List (κ × V)}, Kp K B es kvs → (es.any fun e => decide (e.1 = k)) = (kvs.any fun e => decide (e.1 = k))
  | _, _, .nil => rfl
  | e :: es, kv :: kvs, .cons h t => by
    rw [List.any_cons, List.any_cons, h.1, kp_any (es := es) (kvs := kvs) t]
theorem kp_map {k : κ} {d : D} {v : V} (r : Rp K B d v) : ∀ {es : List (κ × D)} {kvs : List (κ × V)}, Kp K B es kvs → Kp K B (es.map fun e => if e.1 = k then (e.1, d) else e) (kvs.map fun e => if e.1 = k then (e.1, v) else e)
  | _, _, .nil => .nil
  | e :: es, kv :: kvs, .cons h t => by
    refine .cons ?_ (kp_map r (es := es) (kvs := kvs) t)
    dsimp only
    rw [h.1]
    by_cases z : kv.1 = k
    · rw [if_pos z, if_pos z]
      exact ⟨rfl, r⟩
    · rw [if_neg z, if_neg z]
      exact ⟨h.1, h.2⟩
theorem kp_app : ∀ {es fs : List (κ × D)} {kvs us : List (κ × V)}, Kp K B es kvs → Kp K B fs us → Kp K B (es ++ fs) (kvs ++ us)
  | _, _, _, _, .nil, q => q
  | _, _, _, _, .cons h t, q => .cons h (kp_app t q)
theorem kp_put {k : κ} {d : D} {v : V} (r : Rp K B d v) {es : List (κ × D)} {kvs : List (κ × V)} (h : Kp K B es kvs) : Kp K B (putD es k d) (putK kvs k v) := by
  unfold putD putK
  rw [kp_any (k := k) h]
  split
  · exact kp_map r h
  · exact kp_app h (.cons ⟨rfl, r⟩ .nil)
end
def eDk : M Vl := rt (.fr (.dk []))
def eDt : M Vl := rt (.fr (.dt []))
theorem sx_dt {K : PySem.W.Frag} {A : Anc} : SEX K A tDNewT eDt := fun σ τ B H env pe env' r Q S hl e q => by
  cases e
  intro p hp
  exact q B _ _ (Same.refl _) hl (S.push hp (.dt (es := []) (kvs := []) rfl .nil))
section
variable {g : G0} {c : Ct} {pos : Pos}
theorem ee_dt : EE g c (.Dict [] [] pos) eDt := ⟨_, fun X hX => pe_dnewT, fun A => sx_dt⟩
def setDk : D → D → D → Option D
  | .dk es, k, d => match keyD k with
    | some k => if lessL es.length = true then some (.dk (putD es k d)) else none
    | none => none
  | .dt es, .tup ks, d => match keysD ks with
    | some k => if lessL es.length = true then some (.dt (putD es k d)) else none
    | none => none
  | .lst ds, .int i, d => match ixN ds.length i with
    | some j => some (.lst (ds.set j d))
    | none => none
  | _, _, _ => none
def rSetAny : V → V → V → Hp → (Hp → Prop) → Prop := fun o i v H Q => rSetL o i v H Q ∨ ∃ a H', o = .ref a ∧ DPut H a i v H' ∧ Q H'
theorem set_any {X : Cx} {k : Nat} (hr : Room k X.A) : PSet X rSetAny := by
  intro pins s σ H o i v ov iv u Q I ro ri rv h
  rcases h with h | ⟨a, H', rfl, hd, q⟩
  · exact set_list pins s σ H o i v ov iv u Q I ro ri rv h
  · obtain rfl : ov = Value.ref a := ro
    exact d_setItem (by have := hr.un; omega) I hd ri rv fun s' I' => ⟨H', I', q⟩
theorem se_any : SeI g setDk := ⟨rSetAny, fun c X hX => set_any hX.room, fun B H p k v d0 dk d d' Q s c r rv e q => by
  unfold setDk at e
  split at e
  · rename_i es kd d0
    split at e
    · rename_i key hk
      split at e
      · rename_i hl
        cases e
        have ek := r.key hk
        subst ek
        generalize ho : H p = o at c
        cases c with
        | @dk kvs es h1 h2 =>
          have hp := kp_to (kp_put (k := key) rv (kp_of h1 h2))
          have hlen : kvs.length < sizeLine := by
            have := of_decide_eq_true hl
            have e2 := congrArg List.length h1
            rw [List.length_map, List.length_map] at e2
            omega
          exact .inr ⟨p, _, rfl, .k ho hlen, q _ (.dk hp.1 hp.2)⟩
      · cases e
    · cases e
  · rename_i es ks d0
    split at e
    · rename_i key hk
      split at e
      · rename_i hl
        cases e
        obtain ⟨b, xs, rfl, hb, _, rr⟩ := r.tup s
        have ek := rr.keys hk
        subst ek
        generalize ho : H p = o at c
        cases c with
        | @dt kvs es h1 h2 =>
          have hp := kp_to (kp_put (k := key) rv (kp_of h1 h2))
          have hlen : kvs.length < sizeLine := by
            have := of_decide_eq_true hl
            have e2 := congrArg List.length h1
            rw [List.length_map, List.length_map] at e2
            omega
          exact .inr ⟨p, _, rfl, .inr ⟨kvs, key, b, ho, rfl, hb, hlen, rfl⟩, q _ (.dt hp.1 hp.2)⟩
      · cases e
    · cases e
  · rename_i ds i
    split at e
    · rename_i j hj
      cases e
      obtain ⟨ys, hy, rr⟩ := cont_lst c
      exact .inl ⟨p, ys, i, j, rfl, r.int, hy, by rw [← rr.length]; exact hj, q _ (.lst (rr.set rv j))⟩
    · cases e
  · cases e⟩
end

def truD : D → Option Bool
  | .non => some false
  | .bl b => some b
  | .int i => some (i != 0)
  | .str x => if small x.length = true then some ((x.length : Int) != 0) else none
  | .lst ds => some (!ds.isEmpty)
  | .tup ds => some (!ds.isEmpty)
  | .sc ns => some (!ns.isEmpty)
  | .dk es => some (!es.isEmpty)
  | _ => none
def mT (m : M Vl) : M Bool := bd m fun r e => match cnt e r.hold with
  | some d => match truD d with
    | some b => some (b, e)
    | none => none
  | none => none
section
variable {K : PySem.W.Frag} {A : Anc}
end
end PD
namespace PD
variable [PD.TabL]
open PySem PySem.Spec PyProof.Rows L2

section
variable {K : PySem.W.Frag} {A : Anc}
theorem ss_pfc {i j : Nat} {t1 t2 : TE} {m n : M Vl} (hij : i ≠ j) (h1 : SEX K A t1 m) (h2 : SEX K A t2 n) :
    SSX K A (tAsg (tTup (tCons t1 (tCons t2 tNil))) (gTup K 2 (gCons (gName i) (gCons (gName j) gNil)))) (sPF i j m n) := fun σ B H env env' fl E S e q => by
  unfold sPF at e
  split at e
  · rename_i r1 e1 g1
    split at e
    · rename_i r2 e2 g2
      split at e
      · rename_i e3 g3
        split at e
        · rename_i e4 g4
          cases e
          obtain ⟨q1, f1, a1, b1⟩ := bd_inv g1
          obtain ⟨q2, f2, a2, b2⟩ := bd_inv g2
          refine h1 σ [] B H env [] f1 q1 _ S.nil_app S.len a1 fun B1 H1 v s1 hl1 hv => ?_
          obtain ⟨B2, τ1, pe1, s2, hl2, P1, S2⟩ := hb_ok hv hl1 b1
          refine h2 σ ([] ++ τ1) B2 H1 e1 ([] ++ pe1) f2 q2 _ S2 hl2 a2 fun B3 H3 w s3 hl3 hw => ?_
          obtain ⟨B4, τ2, pe2, s4, hl4, P2, S4⟩ := hb_ok hw hl3 b2
          refine ⟨by show 2 ≤ sizeLine; decide, fun p hp => ?_⟩
          refine ⟨p, [v, w], rfl, .inl (.inl upd_same), rfl, v, [w], rfl, w, [], rfl, rfl, ?_⟩
          rw [List.set_comm _ _ hij]
          have S4' := S4.laid (o := .tup [v, w]) hp
          refine sg_name (K := K) (A := A) σ ([] ++ τ1) B4 _ e2 ([] ++ pe1) e3 r2 w (fun σ' H' => E.nx (σ'.set i (some v)) H') (P2.vr S4') hl4 g3 fun σ1 B5 H5 s5 hl5 _ S5 => ?_
          have P1' := P1.mono ((s3.trans s4).trans s5)
          exact sg_name (K := K) (A := A) σ1 [] B5 H5 e3 [] _ r1 v E.nx (P1'.vr S5) hl5 g4 fun σ2 B6 H6 s6 hl6 _ S6 => q σ2 B6 H6 (((s1.trans s2).trans (s3.trans s4)).trans (s5.trans s6)) S6.app_nil
        · cases e
      · cases e
    · cases e
  · cases e
theorem ss_pfc3 {i j l : Nat} {t1 t2 t3 : TE} {m n o : M Vl} (hij : i ≠ j) (hil : i ≠ l) (hjl : j ≠ l) (h1 : SEX K A t1 m) (h2 : SEX K A t2 n) (h3 : SEX K A t3 o) :
    SSX K A (tAsg (tTup (tCons t1 (tCons t2 (tCons t3 tNil)))) (gTup K 3 (gCons (gName i) (gCons (gName j) (gCons (gName l) gNil))))) (sPF3 i j l m n o) := fun σ B H env env' fl E S e q => by
  unfold sPF3 at e
  split at e
  · rename_i r1 e1 g1
    split at e
    · rename_i r2 e2 g2
      split at e
      · rename_i r3 e3 g3
        split at e
        · rename_i e4 g4
          split at e
          · rename_i e5 g5
            split at e
            · rename_i e6 g6
              cases e
              obtain ⟨q1, f1, a1, b1⟩ := bd_inv g1
              obtain ⟨q2, f2, a2, b2⟩ := bd_inv g2
              obtain ⟨q3, f3, a3, b3⟩ := bd_inv g3
              refine h1 σ [] B H env [] f1 q1 _ S.nil_app S.len a1 fun B1 H1 v s1 hl1 hv => ?_
              obtain ⟨B2, τ1, pe1, s2, hl2, P1, S2⟩ := hb_ok hv hl1 b1
              refine h2 σ ([] ++ τ1) B2 H1 e1 ([] ++ pe1) f2 q2 _ S2 hl2 a2 fun B3 H3 w s3 hl3 hw => ?_
              obtain ⟨B4, τ2, pe2, s4, hl4, P2, S4⟩ := hb_ok hw hl3 b2
              refine h3 σ ([] ++ τ1 ++ τ2) B4 H3 e2 ([] ++ pe1 ++ pe2) f3 q3 _ S4 hl4 a3 fun B5 H5 u s5 hl5 hu => ?_
              obtain ⟨B6, τ3, pe3, s6, hl6, P3, S6⟩ := hb_ok hu hl5 b3
              refine ⟨by show 3 ≤ sizeLine; decide, fun p hp => ?_⟩
              refine ⟨p, [v, w, u], rfl, .inl (.inl upd_same), rfl, v, [w, u], rfl, w, [u], rfl, u, [], rfl, rfl, ?_⟩
              rw [List.set_comm (i := i) _ _ hij, List.set_comm (i := i) _ _ hil, List.set_comm (i := j) _ _ hjl]
              have S6' := S6.laid (o := .tup [v, w, u]) hp
              refine sg_name (K := K) (A := A) σ ([] ++ τ1 ++ τ2) B6 _ e3 ([] ++ pe1 ++ pe2) e4 r3 u (fun σ' H' => E.nx ((σ'.set j (some w)).set i (some v)) H') (P3.vr S6') hl6 g4 fun σ1 B7 H7 s7 hl7 _ S7 => ?_
              have P2' := P2.mono ((s5.trans s6).trans s7)
              refine sg_name (K := K) (A := A) σ1 ([] ++ τ1) B7 H7 e4 ([] ++ pe1) e5 r2 w (fun σ' H' => E.nx (σ'.set i (some v)) H') (P2'.vr S7) hl7 g5 fun σ2 B8 H8 s8 hl8 _ S8 => ?_
              have P1' := P1.mono (((s3.trans s4).trans ((s5.trans s6).trans s7)).trans s8)
              exact sg_name (K := K) (A := A) σ2 [] B8 H8 e5 [] _ r1 v E.nx (P1'.vr S8) hl8 g6 fun σ3 B9 H9 s9 hl9 _ S9 => q σ3 B9 H9 (((s1.trans s2).trans (s3.trans s4)).trans (((s5.trans s6).trans (s7.trans s8)).trans s9)) S9.app_nil
            · cases e
          · cases e
        · cases e
      · cases e
    · cases e
  · cases e
end
section
variable {g : G0} {c : Ct} {a b d : Expr} {m n o : M Vl} {pos px py pz pt pt2 : Pos} {kt k2 : Nat}
theorem pgn {X : Cx} (hX : Cok g c X) {i : Nat} {x : Str} (hN : c.N[i]? = some x) (hv : Loc c.sc x) (hf : c.fb x = true) : PG X (.Name x pos) (gName i) :=
  pg_name hX.nd (by rw [hX.eN]; exact hN) (by rw [hX.es]; exact hv) (.inl (hX.fn x hf))
theorem es_pfc {i j : Nat} {x y : Str} (hi : c.N[i]? = some x) (hj : c.N[j]? = some y) (hij : i ≠ j) (hx : Loc c.sc x) (hy : Loc c.sc y) (fx : c.fb x = true) (fy : c.fb y = true) (h : EE g c a m) (h' : EE g c b n) (pl : Pl a) (pl2 : Pl b)
    (hw : ∀ env : PySem.Env, env.scope = c.sc → swappedStores [.Tuple [.Name x px, .Name y py] kt pt] (.Tuple [a, b] k2 pt2) env = pure none)
    (hs : ∀ env : PySem.Env, swapsWithSole [.Tuple [.Name x px, .Name y py] kt pt] (.Tuple [a, b] k2 pt2) pos.line env = pure false) :
    ES g c (.Assign [.Tuple [.Name x px, .Name y py] kt pt] (.Tuple [a, b] k2 pt2) pos) (sPF i j m n) := by
  obtain ⟨t, h1, k1⟩ := h
  obtain ⟨u, h2, k2⟩ := h'
  exact ⟨tAsg (tTup (tCons t (tCons u tNil))) (gTup g.K 2 (gCons (gName i) (gCons (gName j) gNil))), fun X hX => ps_asg (pe_tup (pa_cons (h1 X hX) (pa_cons (h2 X hX) pa_nil (pl2 [] X.env)) (pl [b] X.env)))
    (by
      rw [← hX.eK]
      exact pg_tup hX.calm (pgs_cons (pgn hX hi hx fx) (pgs_cons (pgn hX hj hy fy) pgs_nil))) (hs X.env) (hw X.env hX.es), fun A => ss_pfc hij (k1 A) (k2 A)⟩
theorem es_pfc3 {i j l : Nat} {x y z : Str} (hi : c.N[i]? = some x) (hj : c.N[j]? = some y) (hk : c.N[l]? = some z) (hij : i ≠ j) (hil : i ≠ l) (hjl : j ≠ l) (hx : Loc c.sc x) (hy : Loc c.sc y) (hz : Loc c.sc z) (fx : c.fb x = true) (fy : c.fb y = true) (fz : c.fb z = true) (h : EE g c a m) (h' : EE g c b n) (h'' : EE g c d o) (pl : Pl a) (pl2 : Pl b) (pl3 : Pl d)
    (hw : ∀ env : PySem.Env, env.scope = c.sc → swappedStores [.Tuple [.Name x px, .Name y py, .Name z pz] kt pt] (.Tuple [a, b, d] k2 pt2) env = pure none)
    (hs : ∀ env : PySem.Env, swapsWithSole [.Tuple [.Name x px, .Name y py, .Name z pz] kt pt] (.Tuple [a, b, d] k2 pt2) pos.line env = pure false) :
    ES g c (.Assign [.Tuple [.Name x px, .Name y py, .Name z pz] kt pt] (.Tuple [a, b, d] k2 pt2) pos) (sPF3 i j l m n o) := by
  obtain ⟨t, h1, k1⟩ := h
  obtain ⟨u, h2, k2⟩ := h'
  obtain ⟨w, h3, k3⟩ := h''
  exact ⟨tAsg (tTup (tCons t (tCons u (tCons w tNil)))) (gTup g.K 3 (gCons (gName i) (gCons (gName j) (gCons (gName l) gNil)))), fun X hX => ps_asg (pe_tup (pa_cons (h1 X hX) (pa_cons (h2 X hX) (pa_cons (h3 X hX) pa_nil (pl3 [] X.env)) (pl2 [d] X.env)) (pl [b, d] X.env)))
    (by
      rw [← hX.eK]
      exact pg_tup hX.calm (pgs_cons (pgn hX hi hx fx) (pgs_cons (pgn hX hj hy fy) (pgs_cons (pgn hX hk hz fz) pgs_nil)))) (hs X.env) (hw X.env hX.es), fun A => ss_pfc3 hij hil hjl (k1 A) (k2 A) (k3 A)⟩
end
end PD
namespace PD
variable [PD.TabL]
open PySem PySem.Spec PyProof.Rows L2

def D.atom : D → Bool
  | .non => true
  | .bl _ => true
  | .int _ => true
  | .str _ => true
  | .txt _ => true
  | _ => false
def Sl.frz : Sl → Sl
  | .ow d => .im d
  | .io _ d => .im d
  | s => s
def eTmp (m : M Vl) : M Vl := fun e => match m (e.map Sl.frz) with
  | some (.im d, _) => if d.atom = true then some (.im d, e) else none
  | _ => none
section
variable {K : PySem.W.Frag}
theorem Rp.atom {B B' : Hp} {d : D} {v : V} (h : d.atom = true) (r : Rp K B d v) : Rp K B' d v := by
  cases r with
  | non => exact .non
  | bl b => exact .bl b
  | int i => exact .int i
  | str x ho => exact .str x ho
  | txt x => exact .txt x
  | _ => cases h
open Classical in
theorem SR.allFrz {A : Anc} {B H : Hp} {σ : L2.St} {env : Env} (S : SR K A B H σ env) : ∃ B', Same B B' ∧ SR K ⟨noT H, B', fun _ => none⟩ B' H σ (env.map Sl.frz) := by
  let held : Addr → Prop := fun a => ∃ (i : Nat) (sl : Sl), env[i]? = some sl ∧ sl.mut = true ∧ σ[i]? = some (some (.ref a))
  let B' : Hp := fun a => match B a with
    | some o => some o
    | none => if held a then H a else none
  have hB : Same B B' := fun a o e => by
    show (match B a with | some o => some o | none => if held a then H a else none) = some o
    rw [e]
  have hH : Same B' H := fun a o e => by
    have e : (match B a with | some o => some o | none => if held a then H a else none) = some o := e
    cases hb : B a with
    | some u =>
      rw [hb] at e
      cases e
      exact S.same _ _ hb
    | none =>
      rw [hb] at e
      dsimp only at e
      split at e
      · exact e
      · cases e
  have atp : ∀ (p : Addr) (i : Nat) (sl : Sl), env[i]? = some sl → sl.mut = true → σ[i]? = some (some (V.ref p)) → B' p = H p := fun p i sl e1 m e2 => by
    show (match B p with | some o => some o | none => if held p then H p else none) = H p
    cases hb : B p with
    | some u => exact (S.same _ _ hb).symm
    | none =>
      show (if held p then H p else none) = H p
      rw [if_pos ⟨i, sl, e1, m, e2⟩]
  refine ⟨B', hB, ⟨by rw [List.length_map]; exact S.len, hH, fun i sl ov e1 e2 => ?_, fun i j p s1 s2 ne e1 e2 m1 _ _ _ => ?_, fun a o e _ => ⟨noT_some e, .inl rfl⟩, fun a ⟨j, h⟩ => (by cases h), fun a ⟨j, h⟩ => (by cases h), fun p hp => ⟨(S.tab p hp).1, ?_, noT_tab hp⟩⟩⟩
  · rw [List.getElem?_map] at e1
    cases he : env[i]? with
    | none =>
      rw [he] at e1
      cases e1
    | some sl0 =>
      rw [he] at e1
      cases e1
      cases S.slot i sl0 ov he e2 with
      | em => exact .em
      | im r => exact .im (r.mono hB)
      | ow b h c => exact .im (c.frozen hB (atp _ i _ he rfl e2))
      | io h c => exact .im (c.frozen hB (atp _ i _ he rfl e2))
  · rw [List.getElem?_map] at e1
    cases he : env[i]? with
    | none =>
      rw [he] at e1
      cases e1
    | some sl0 =>
      rw [he] at e1
      cases e1
      cases sl0 <;> cases m1
  · show (match B p.1 with | some o => some o | none => if held p.1 then H p.1 else none) = none
    rw [(S.tab p hp).2.1]
    dsimp only
    refine if_neg fun ⟨i, sl, e1, m, e2⟩ => ?_
    obtain ⟨q, d, u, f1, _, f2, f3⟩ := (S.slot i sl _ e1 e2).held m
    cases f1
    exact S.tC (by rw [f2]; exact f3) (List.mem_map.mpr ⟨p, hp, rfl⟩)
/-- .. a test -/
def mTmp (m : M Bool) : M Bool := fun e => match m (e.map Sl.frz) with
  | some (b, _) => some (b, e)
  | none => none
theorem st_tmp {t : TT} {m : M Bool} (h : ∀ A, STX K A t m) (A : Anc) : STX K A t (mTmp m) := fun σ τ B H env pe env' b Q S hl e q => by
  unfold mTmp at e
  split at e
  · rename_i b1 e1 hm
    cases e
    obtain ⟨B', sB, S'⟩ := S.allFrz
    rw [List.map_append] at S'
    refine h ⟨noT H, B', fun _ => none⟩ σ τ B' H (env.map Sl.frz) (pe.map Sl.frz) e1 b Q S' (by rw [List.length_map]; exact hl) hm fun B2 H2 s2 hl2 S2 => ?_
    have keep : ∀ a o, a ∉ tbA → H a = some o → H2 a = some o := fun a o nt ho => (S2.anc a o ((noT_of nt).trans ho) fun ⟨j, z⟩ => by cases z).1
    refine q B H2 (Same.refl _) hl ⟨S.len, fun a o ho => keep a o (S.tB ho) (S.same a o ho), fun i sl ov e1 e2 => ?_, S.inj, fun a o ho n => ?_, fun a ha' => ?_, S.ioh, fun p hp => ⟨(S2.tab p hp).1, (S.tab p hp).2⟩⟩
    · refine (S.slot i sl ov e1 e2).grow (Same.refl _) (fun p d _ _ c => ?_) (fun _ _ _ z => z)
      obtain ⟨o, ho⟩ := c.some
      rw [ho, keep p o (S.tC c) ho]
    · obtain ⟨h1, h2⟩ := S.anc a o ho n
      exact ⟨keep a o (S.tH ho) h1, h2⟩
    · obtain ⟨h1, o, h2, nt⟩ := S.iob a ha'
      obtain ⟨oh, eh⟩ := S.ioh a ha'
      exact ⟨h1, o, keep a o (S.tH eh) h2, nt⟩
  · cases e
theorem et_tmp {g : G0} {c : Ct} {e : Expr} {m : M Bool} (h : ET g c e m) : ET g c e (mTmp m) := by
  obtain ⟨t, h1, h2⟩ := h
  exact ⟨t, h1, fun A => st_tmp h2 A⟩
end
end PD
namespace PD
variable [PD.TabL]
open PySem PySem.Spec PyProof.Rows L2
end PD
namespace PD
variable [PD.TabL]
open PySem PySem.Spec PyProof.Rows L2
/-- a name's letters -/
def LT : List Nat := (Str.ofString "abcdefghijklmnopqrstuvwxyz").cps.toList
theorem LT_len : LT.length = 26 := by decide +kernel
theorem LT_nodup : LT.Nodup := by decide +kernel
theorem LT_low : ∀ c ∈ LT, c < 128 := by decide +kernel
theorem LT_small : small (Str.ofString "abcdefghijklmnopqrstuvwxyz").length = true := by decide +kernel
theorem strsD_signs : ∀ cs : List Nat, strsD (cs.map fun c => D.str ⟨#[c]⟩) = some (cs.map fun c => (⟨#[c]⟩ : Str))
  | [] => rfl
  | c :: r => by
    show (strsD (r.map fun c => D.str ⟨#[c]⟩)).map ((⟨#[c]⟩ : Str) :: ·) = _
    rw [strsD_signs r]
    rfl
theorem sum_signs : ∀ cs : List Nat, ((cs.map fun c => (⟨#[c]⟩ : Str)).map (·.length)).sum = cs.length
  | [] => rfl
  | c :: r => by
    rw [List.map_cons, List.map_cons, List.sum_cons, sum_signs r, List.length_cons]
    show 1 + r.length = _
    omega
theorem join_sem (cs : List Nat) (h : cs.length ≤ 1000) (hc : ∀ c ∈ cs, c < 128) : joinD [.str (Str.ofString ""), .lst (cs.map fun c => D.str ⟨#[c]⟩)] = some (.im (.str ⟨cs.toArray⟩)) := by
  have e0 : (Str.ofString "").length = 0 := by decide +kernel
  have e1 : (cs.map fun c => (⟨#[c]⟩ : Str)).length = cs.length := List.length_map ..
  have e2 : Txt.join (Str.ofString "") (cs.map fun c => (⟨#[c]⟩ : Str)) = ⟨cs.toArray⟩ := txt_join_signs cs
  have e3 : PyData.strOk ⟨cs.toArray⟩ = true := ok_mem.mpr fun c h => Nat.lt_trans (hc c (by simpa using h)) (by decide)
  have e4 : cs.length ≤ 16777216 := by omega
  unfold joinD
  simp only [strsD_signs, sum_signs, e0, e2, e3, Nat.mul_zero, Nat.add_zero, e4, decide_true, Bool.and_self, if_true]
theorem letter_at (r : Int) (h0 : 0 ≤ r) (h1 : r < 26) : ∃ c ∈ LT, L2.atI (Str.ofString "abcdefghijklmnopqrstuvwxyz").cps.toList r = some c := by
  obtain ⟨c, hc, e⟩ := atI_in (l := LT) h0 (by rw [LT_len]; omega)
  exact ⟨c, hc, e⟩
theorem As.small {n : Nat} {x : Str} (h : As n x) (hn : n ≤ 1000000) : PD.small x.length = true := small_lit (by have := h.1; omega)
theorem rng_get {lo : Int} {m i : Nat} {d : D} (h : (rngD lo m)[i]? = some d) : i < m ∧ d = .int (lo + i) := by
  unfold rngD at h
  rw [List.getElem?_map] at h
  cases h1 : (List.range m)[i]? with
  | none =>
    rw [h1] at h
    cases h
  | some j =>
    rw [h1] at h
    cases h
    obtain ⟨h2, h3⟩ := List.getElem?_eq_some_iff.mp h1
    rw [List.getElem_range] at h3
    exact ⟨by simpa using h2, by rw [h3]⟩
theorem rng_len (lo : Int) (m : Nat) : (rngD lo m).length = m := by simp [rngD]
end PD
namespace PD
variable [PD.TabL]
open PySem PySem.Spec PyProof.Rows L2
class K1 (α : Type) where
  run : α → Prop
class K2 (α : Type) where
  run : α → Env → Prop
class KB where
  t : Prop
  f : Prop
class KC where
  p : Prop
def W {α : Type} (m : Env → Option (α × Env)) (e : Env) [K : K2 α] : Prop := ∃ a e', m e = some (a, e') ∧ K.run a e'
def WO {α : Type} (o : Option α) [K : K1 α] : Prop := ∃ a, o = some a ∧ K.run a
def WB (b : Bool) [K : KB] : Prop := if b = true then K.t else K.f
def WC (c : Bool) [K : KC] : Prop := c = true ∧ K.p
section
variable {α β : Type} {e : Env}
theorem W_eq {m : Env → Option (α × Env)} {Q : α → Env → Prop} : @W _ m e ⟨Q⟩ = (match m e with | some p => Q p.1 p.2 | none => False) := by
  unfold W
  cases h : m e with
  | none => simp
  | some p => exact propext ⟨fun ⟨a, e', h1, h2⟩ => by cases h1; exact h2, fun h => ⟨_, _, rfl, h⟩⟩
theorem WO_eq {o : Option α} {K : α → Prop} : @WO _ o ⟨K⟩ = (match o with | some p => K p | none => False) := by
  unfold WO
  cases o with
  | none => simp
  | some p => exact propext ⟨fun ⟨a, h1, h2⟩ => by cases h1; exact h2, fun h => ⟨_, rfl, h⟩⟩
theorem WO_some {a : α} {K : α → Prop} : @WO _ (some a) ⟨K⟩ = K a := WO_eq
theorem WO_none {K : α → Prop} : @WO _ none ⟨K⟩ = False := WO_eq
theorem WO_if {c : Bool} {a : α} {K : α → Prop} (h : c = true) (q : K a) : @WO _ (if c = true then some a else none) ⟨K⟩ := by
  rw [if_pos h, WO_some]
  exact q
theorem WO_of {o : Option α} {a : α} {K : α → Prop} (h : o = some a) (q : K a) : @WO _ o ⟨K⟩ := ⟨a, h, q⟩
theorem W_mono {m : Env → Option (α × Env)} {Q Q' : α → Env → Prop} (h : @W _ m e ⟨Q⟩) (q : ∀ a e', Q a e' → Q' a e') : @W _ m e ⟨Q'⟩ := by
  obtain ⟨a, e', h1, k⟩ := h
  exact ⟨a, e', h1, q a e' k⟩
theorem WB_true {P R : Prop} : @WB true ⟨P, R⟩ = P := if_pos rfl
theorem WB_false {P R : Prop} : @WB false ⟨P, R⟩ = R := if_neg Bool.false_ne_true
theorem WB_cases {b : Bool} {P R : Prop} (h : b = true → P) (h' : b = false → R) : @WB b ⟨P, R⟩ := by
  cases b with
  | true => exact (WB_true (P := P) (R := R)).mpr (h rfl)
  | false => exact (WB_false (P := P) (R := R)).mpr (h' rfl)
theorem WB_cases' {p : Prop} [Decidable p] {P R : Prop} (h : p → P) (h' : ¬ p → R) : @WB (decide p) ⟨P, R⟩ := WB_cases (fun z => h (of_decide_eq_true z)) (fun z => h' (of_decide_eq_false z))
theorem WB_eq {b : Bool} {P R : Prop} : @WB b ⟨P, R⟩ = (match b with | true => P | false => R) := by
  cases b with
  | true => exact WB_true
  | false => exact WB_false
theorem WC_eq {c : Bool} {P : Prop} : @WC c ⟨P⟩ = (match c with | true => P | false => False) := by
  unfold WC
  cases c <;> simp
theorem WC_true {P : Prop} : @WC true ⟨P⟩ = P := propext ⟨fun h => h.2, fun h => ⟨rfl, h⟩⟩
theorem WC_mk {c : Bool} {P : Prop} (h : c = true) (q : P) : @WC c ⟨P⟩ := ⟨h, q⟩
theorem WC_dec {p : Prop} [Decidable p] {P : Prop} (h : p) (q : P) : @WC (decide p) ⟨P⟩ := ⟨decide_eq_true h, q⟩
theorem small_eq (n : Nat) : small n = decide (n ≤ 16777216) := rfl
theorem lessL_eq (n : Nat) : lessL n = decide (n < 16777216) := rfl

theorem W_rt {a : α} {Q : α → Env → Prop} : @W _ (rt a) e ⟨Q⟩ = Q a e := W_eq
theorem W_bd {m : M α} {f : α → M β} {Q : β → Env → Prop} : @W _ (bd m f) e ⟨Q⟩ = @W _ m e ⟨fun a e' => @W _ (f a) e' ⟨Q⟩⟩ := by
  simp only [W_eq, bd]
  cases m e <;> rfl
end

/-- a slot set anew -/
def setO : Env → Nat → Sl → Option Env
  | [], _, _ => none
  | _ :: l, 0, x => some (x :: l)
  | a :: l, n + 1, x => (setO l n x).map (a :: ·)
theorem setO_ok : ∀ (e : Env) (i : Nat) (x : Sl), (if i < e.length then some (e.set i x) else none) = setO e i x
  | [], i, x => by simp [setO]
  | a :: l, 0, x => by simp [setO]
  | a :: l, n + 1, x => by
    rw [setO, ← setO_ok l n x]
    by_cases h : n < l.length
    · rw [if_pos h, if_pos (by rw [List.length_cons]; omega)]
      rfl
    · rw [if_neg h, if_neg (by rw [List.length_cons]; omega)]
      rfl
def frzO (e : Env) (i : Nat) : Option (D × Env) := frz (.bo i) e
theorem frzO_eq (e : Env) (i : Nat) : frzO e i = match e[i]? with
  | some (.im d) => some (d, e)
  | some (.ow d) => some (d, e.set i (.im d))
  | some (.io _ _) => none
  | some .em => none
  | none => none := by
  simp only [frzO, frz]
  cases h : e[i]? with
  | none => rfl
  | some sl => cases sl <;> rfl

section
variable {e : Env}
theorem W_gN_im {i : Nat} {d : D} {Q : Unit → Env → Prop} : @W _ (gN i (.im d)) e ⟨Q⟩ = @WO _ (setO e i (.im d)) ⟨fun e' => Q () e'⟩ := by
  rw [W_eq, WO_eq, ← setO_ok]
  unfold gN
  by_cases h : i < e.length
  · rw [if_pos h, if_pos h]
  · rw [if_neg h, if_neg h]
theorem W_gN_fr {i : Nat} {d : D} {Q : Unit → Env → Prop} : @W _ (gN i (.fr d)) e ⟨Q⟩ = @WO _ (setO e i (.ow d)) ⟨fun e' => Q () e'⟩ := by
  rw [W_eq, WO_eq, ← setO_ok]
  unfold gN
  by_cases h : i < e.length
  · rw [if_pos h, if_pos h]
  · rw [if_neg h, if_neg h]
theorem frz_len {v : Vl} {d : D} {e e' : Env} (h : frz v e = some (d, e')) : e'.length = e.length := by
  unfold frz at h
  split at h
  · cases h; rfl
  · cases h; rfl
  · split at h
    · cases h; rfl
    · cases h; simp
    · cases h
theorem W_gN_bo {i j : Nat} {Q : Unit → Env → Prop} : @W _ (gN i (.bo j)) e ⟨Q⟩ = @WO _ (frzO e j) ⟨fun p => @WO _ (setO p.2 i (.im p.1)) ⟨fun e' => Q () e'⟩⟩ := by
  rw [W_eq, WO_eq]
  have h0 : frz (.bo j) e = frzO e j := rfl
  unfold gN
  dsimp only
  rw [h0]
  cases h : frzO e j with
  | none =>
    by_cases h : i < e.length
    · rw [if_pos h]
    · rw [if_neg h]
  | some p =>
    have hl : p.2.length = e.length := frz_len (v := .bo j) (d := p.1) (h0.trans h)
    dsimp only
    rw [WO_eq, ← setO_ok, hl]
    by_cases h : i < e.length
    · rw [if_pos h, if_pos h]
    · rw [if_neg h, if_neg h]
theorem W_frz_im {d : D} {Q : D → Env → Prop} : @W _ (frz (.im d)) e ⟨Q⟩ = Q d e := W_eq
theorem W_frz_fr {d : D} {Q : D → Env → Prop} : @W _ (frz (.fr d)) e ⟨Q⟩ = Q d e := W_eq
theorem W_frz_bo {i : Nat} {Q : D → Env → Prop} : @W _ (frz (.bo i)) e ⟨Q⟩ = @WO _ (frzO e i) ⟨fun p => Q p.1 p.2⟩ := by
  simp only [W_eq, WO_eq, frzO]
  cases frz (.bo i) e <;> rfl
theorem W_frzs_nil {Q : List D → Env → Prop} : @W _ (frzs []) e ⟨Q⟩ = Q [] e := W_eq
theorem W_frzs_cons {v : Vl} {r : List Vl} {Q : List D → Env → Prop} : @W _ (frzs (v :: r)) e ⟨Q⟩ = @W _ (frz v) e ⟨fun d e1 => @W _ (frzs r) e1 ⟨fun ds e2 => Q (d :: ds) e2⟩⟩ := by
  show @W _ (bd (frz v) _) e ⟨Q⟩ = _
  simp only [W_eq, bd]
  cases frz v e with
  | none => rfl
  | some p =>
    dsimp only
    cases frzs r p.2 <;> rfl
theorem W_eC {d : D} {Q : Vl → Env → Prop} : @W _ (eC d) e ⟨Q⟩ = Q (.im d) e := W_eq
theorem W_eV {i : Nat} {Q : Vl → Env → Prop} : @W _ (eV i) e ⟨Q⟩ = @WO _ e[i]? ⟨fun sl => match sl with | .em => False | .im d => Q (.im d) e | .ow _ => Q (.bo i) e | .io _ _ => Q (.bo i) e⟩ := by
  rw [W_eq, WO_eq]
  unfold eV
  cases e[i]? with
  | none => rfl
  | some sl => cases sl <;> rfl
theorem W_cN {Q : List Vl → Env → Prop} : @W _ cN e ⟨Q⟩ = Q [] e := W_eq
theorem W_cA {m : M Vl} {ms : M (List Vl)} {Q : List Vl → Env → Prop} : @W _ (cA m ms) e ⟨Q⟩ = @W _ m e ⟨fun r e1 => @W _ ms e1 ⟨fun rs e2 => Q (r.hold :: rs) e2⟩⟩ := by
  unfold cA
  simp only [W_eq, bd]
  cases m e with
  | none => rfl
  | some p =>
    dsimp only
    cases ms p.2 <;> rfl
theorem W_eP {f : List D → Option Vl} {ms : M (List Vl)} {Q : Vl → Env → Prop} : @W _ (eP f ms) e ⟨Q⟩ = @W _ ms e ⟨fun rs e' => @WO _ (cnts e' rs) ⟨fun ds => @WO _ (f ds) ⟨fun v => match v with | .im d => Q (.im d) e' | .fr d => Q (.fr d) e' | .bo _ => False⟩⟩⟩ := by
  unfold eP
  simp only [W_eq, WO_eq, bd]
  cases ms e with
  | none => rfl
  | some p =>
    obtain ⟨rs, e1⟩ := p
    dsimp only
    cases cnts e1 rs with
    | none => rfl
    | some ds =>
      dsimp only
      cases f ds with
      | none => rfl
      | some v => cases v <;> rfl
theorem W_eM {T : String} {f : List D → Option Vl} {m : M Vl} {ms : M (List Vl)} {Q : Vl → Env → Prop} : @W _ (eM T f m ms) e ⟨Q⟩ = @W _ m e ⟨fun r e1 => @W _ (ckT T r.hold) e1 ⟨fun _ e2 => @W _ ms e2 ⟨fun rs e3 => @WO _ (cnts e3 (r.hold :: rs)) ⟨fun ds => @WO _ (f ds) ⟨fun v => match v with | .im d => Q (.im d) e3 | .fr d => Q (.fr d) e3 | .bo _ => False⟩⟩⟩⟩⟩ := by
  unfold eM
  simp only [W_eq, WO_eq, bd]
  cases m e with
  | none => rfl
  | some p =>
    obtain ⟨r, e1⟩ := p
    dsimp only
    cases ckT T r.hold e1 with
    | none => rfl
    | some q =>
      obtain ⟨q, e2⟩ := q
      dsimp only
      cases ms e2 with
      | none => rfl
      | some w =>
        obtain ⟨w, e3⟩ := w
        dsimp only
        cases cnts e3 (r.hold :: w) with
        | none => rfl
        | some ds =>
          dsimp only
          cases f ds with
          | none => rfl
          | some v => cases v <;> rfl
theorem W_ckT {T : String} {r : Vl} {Q : Unit → Env → Prop} : @W _ (ckT T r) e ⟨Q⟩ = @WO _ (cnt e r) ⟨fun d => @WC (tyT T d) ⟨Q () e⟩⟩ := by
  unfold ckT
  simp only [W_eq, WO_eq]
  cases cnt e r with
  | none => rfl
  | some d =>
    dsimp only
    unfold WC
    cases tyT T d <;> simp
def putO (e : Env) (i : Nat) (d : D) : Option Env := some (putC e i d)
theorem W_eU {T : String} {f : D → List D → Option (D × D)} {m : M Vl} {ms : M (List Vl)} {Q : Vl → Env → Prop} : @W _ (eU T f m ms) e ⟨Q⟩ =
    @W _ m e ⟨fun r e0 => match r with
      | .bo i => @W _ (ckT T (.bo i)) e0 ⟨fun _ e1 => @W _ ms e1 ⟨fun rs e2 => @W _ (frzs rs) e2 ⟨fun ds e3 => @WO _ (mutAtD e3 i) ⟨fun d0 => @WO _ (f d0 ds) ⟨fun p => @WO _ (putO e3 i p.1) ⟨fun e4 => Q (.im p.2) e4⟩⟩⟩⟩⟩⟩
      | .im _ => False
      | .fr _ => False⟩ := by
  unfold eU
  simp only [W_eq, WO_eq, bd]
  cases m e with
  | none => rfl
  | some p =>
    obtain ⟨r, e0⟩ := p
    cases r with
    | im d => rfl
    | fr d => rfl
    | bo i =>
      simp only [bd]
      cases ckT T (.bo i) e0 with
      | none => rfl
      | some q =>
        dsimp only
        cases ms q.2 with
        | none => rfl
        | some w =>
          dsimp only
          cases frzs w.1 w.2 with
          | none => rfl
          | some z =>
            dsimp only
            cases mutAtD z.2 i with
            | none => rfl
            | some d0 =>
              dsimp only
              cases f d0 z.1 with
              | none => rfl
              | some x => rfl
theorem W_eTup {ms : M (List Vl)} {Q : Vl → Env → Prop} : @W _ (eTup ms) e ⟨Q⟩ = @W _ ms e ⟨fun rs e1 => @W _ (frzs rs) e1 ⟨fun ds e2 => @WC (small ds.length) ⟨Q (.im (.tup ds)) e2⟩⟩⟩ := by
  unfold eTup
  simp only [W_eq, bd]
  cases ms e with
  | none => rfl
  | some p =>
    dsimp only
    cases frzs p.1 p.2 with
    | none => rfl
    | some q =>
      dsimp only
      unfold WC
      cases small q.1.length <;> simp [rt]
theorem W_eLst {ms : M (List Vl)} {Q : Vl → Env → Prop} : @W _ (eLst ms) e ⟨Q⟩ = @W _ ms e ⟨fun rs e1 => @W _ (frzs rs) e1 ⟨fun ds e2 => @WC (small ds.length) ⟨Q (.fr (.lst ds)) e2⟩⟩⟩ := by
  unfold eLst
  simp only [W_eq, bd]
  cases ms e with
  | none => rfl
  | some p =>
    dsimp only
    cases frzs p.1 p.2 with
    | none => rfl
    | some q =>
      dsimp only
      unfold WC
      cases small q.1.length <;> simp [rt]
theorem W_eDk {Q : Vl → Env → Prop} : @W _ eDk e ⟨Q⟩ = Q (.fr (.dk [])) e := W_eq
theorem W_eDt {Q : Vl → Env → Prop} : @W _ eDt e ⟨Q⟩ = Q (.fr (.dt [])) e := W_eq
theorem W_mB {m : M Vl} {Q : Bool → Env → Prop} : @W _ (mB m) e ⟨Q⟩ = @W _ m e ⟨fun r e' => match r with | .im (.bl b) => Q b e' | _ => False⟩ := by
  unfold mB
  simp only [W_eq, bd]
  cases m e with
  | none => rfl
  | some p =>
    obtain ⟨r, e1⟩ := p
    cases r with
    | im d => cases d <;> rfl
    | fr d => rfl
    | bo i => rfl
theorem W_mT {m : M Vl} {Q : Bool → Env → Prop} : @W _ (mT m) e ⟨Q⟩ = @W _ m e ⟨fun r e' => @WO _ (cnt e' r.hold) ⟨fun d => @WO _ (truD d) ⟨fun b => Q b e'⟩⟩⟩ := by
  unfold mT
  simp only [W_eq, WO_eq, bd]
  cases m e with
  | none => rfl
  | some p =>
    dsimp only
    cases cnt p.2 p.1.hold with
    | none => rfl
    | some d =>
      dsimp only
      cases truD d <;> rfl
theorem W_mNot {m : M Bool} {Q : Bool → Env → Prop} : @W _ (mNot m) e ⟨Q⟩ = @W _ m e ⟨fun b e' => Q (!b) e'⟩ := by
  unfold mNot
  simp only [W_eq, bd]
  cases m e <;> rfl
theorem W_mAnd {m n : M Bool} {Q : Bool → Env → Prop} : @W _ (mAnd m n) e ⟨Q⟩ = @W _ m e ⟨fun b e' => @WB b ⟨@W _ n e' ⟨Q⟩, Q false e'⟩⟩ := by
  unfold mAnd
  simp only [W_eq, bd, WB_eq]
  cases m e with
  | none => rfl
  | some p =>
    obtain ⟨b, e1⟩ := p
    cases b <;> simp only [if_true, Bool.false_eq_true, if_false, rt, W_eq]
theorem W_mOr {m n : M Bool} {Q : Bool → Env → Prop} : @W _ (mOr m n) e ⟨Q⟩ = @W _ m e ⟨fun b e' => @WB b ⟨Q true e', @W _ n e' ⟨Q⟩⟩⟩ := by
  unfold mOr
  simp only [W_eq, bd, WB_eq]
  cases m e with
  | none => rfl
  | some p =>
    obtain ⟨b, e1⟩ := p
    cases b <;> simp only [if_true, Bool.false_eq_true, if_false, rt, W_eq]
theorem W_eNot {m : M Vl} {Q : Vl → Env → Prop} : @W _ (eNot m) e ⟨Q⟩ = @W _ (mB m) e ⟨fun b e' => Q (.im (.bl (!b))) e'⟩ := by
  unfold eNot
  simp only [W_eq, bd]
  cases mB m e <;> rfl
theorem W_eAnd {m n : M Vl} {Q : Vl → Env → Prop} : @W _ (eAnd m n) e ⟨Q⟩ = @W _ (mB m) e ⟨fun b e' => @WB b ⟨@W _ n e' ⟨Q⟩, Q (.im (.bl false)) e'⟩⟩ := by
  unfold eAnd
  simp only [W_eq, bd, WB_eq]
  cases mB m e with
  | none => rfl
  | some p =>
    obtain ⟨b, e1⟩ := p
    cases b <;> simp only [if_true, Bool.false_eq_true, if_false, rt, W_eq]
theorem W_eOr {m n : M Vl} {Q : Vl → Env → Prop} : @W _ (eOr m n) e ⟨Q⟩ = @W _ (mB m) e ⟨fun b e' => @WB b ⟨Q (.im (.bl true)) e', @W _ n e' ⟨Q⟩⟩⟩ := by
  unfold eOr
  simp only [W_eq, bd, WB_eq]
  cases mB m e with
  | none => rfl
  | some p =>
    obtain ⟨b, e1⟩ := p
    cases b <;> simp only [if_true, Bool.false_eq_true, if_false, rt, W_eq]
theorem W_eIf {c : M Bool} {m n : M Vl} {Q : Vl → Env → Prop} : @W _ (eIf c m n) e ⟨Q⟩ = @W _ c e ⟨fun b e' => @WB b ⟨@W _ m e' ⟨Q⟩, @W _ n e' ⟨Q⟩⟩⟩ := by
  unfold eIf
  simp only [W_eq, bd, WB_eq]
  cases c e with
  | none => rfl
  | some p =>
    obtain ⟨b, e1⟩ := p
    cases b <;> simp only [if_true, Bool.false_eq_true, if_false, W_eq]
theorem W_eTmp {m : M Vl} {Q : Vl → Env → Prop} : @W _ (eTmp m) e ⟨Q⟩ = @WO _ (some (e.map Sl.frz)) ⟨fun e0 => @W _ m e0 ⟨fun r _ => match r with | .im d => @WC d.atom ⟨Q (.im d) e⟩ | _ => False⟩⟩ := by
  unfold eTmp
  simp only [W_eq, WO_eq]
  cases m (e.map Sl.frz) with
  | none => rfl
  | some p =>
    obtain ⟨r, e'⟩ := p
    cases r with
    | im d =>
      dsimp only
      unfold WC
      cases d.atom <;> simp
    | fr d => rfl
    | bo i => rfl
theorem W_mTmp {m : M Bool} {Q : Bool → Env → Prop} : @W _ (mTmp m) e ⟨Q⟩ = @WO _ (some (e.map Sl.frz)) ⟨fun e0 => @W _ m e0 ⟨fun b _ => Q b e⟩⟩ := by
  unfold mTmp
  simp only [W_eq, WO_eq]
  cases m (e.map Sl.frz) with
  | none => rfl
  | some p => rfl
theorem W_oN {Q : Option Int → Env → Prop} : @W _ oN e ⟨Q⟩ = Q none e := W_eq
theorem W_oS {m : M Vl} {Q : Option Int → Env → Prop} : @W _ (oS m) e ⟨Q⟩ = @W _ m e ⟨fun r e' => match r with | .im (.int i) => Q (some i) e' | _ => False⟩ := by
  unfold oS
  simp only [W_eq, bd]
  cases m e with
  | none => rfl
  | some p =>
    obtain ⟨r, e1⟩ := p
    cases r with
    | im d => cases d <;> rfl
    | fr d => rfl
    | bo i => rfl
theorem W_eSl {ma : M Vl} {lo hi : M (Option Int)} {Q : Vl → Env → Prop} : @W _ (eSl ma lo hi) e ⟨Q⟩ = @W _ ma e ⟨fun r e1 => @W _ lo e1 ⟨fun l e2 => @W _ hi e2 ⟨fun h e3 => @WO _ (cnt e3 r.hold) ⟨fun d => @WO _ (slD l h d) ⟨fun v => match v with | .im d => Q (.im d) e3 | .fr d => Q (.fr d) e3 | .bo _ => False⟩⟩⟩⟩⟩ := by
  unfold eSl
  simp only [W_eq, WO_eq, bd]
  cases ma e with
  | none => rfl
  | some p =>
    dsimp only
    cases lo p.2 with
    | none => rfl
    | some l =>
      dsimp only
      cases hi l.2 with
      | none => rfl
      | some h =>
        dsimp only
        cases cnt h.2 p.1.hold with
        | none => rfl
        | some d =>
          dsimp only
          cases slD l.1 h.1 d with
          | none => rfl
          | some v => cases v <;> rfl
theorem W_eChain {f h : List D → Option Vl} {ma mb mc : M Vl} {Q : Vl → Env → Prop} : @W _ (eChain f h ma mb mc) e ⟨Q⟩ =
    @W _ ma e ⟨fun ra e1 => @W _ mb e1 ⟨fun rb e2 => @WO _ (cnt e2 ra.hold) ⟨fun da => @WO _ (cnt e2 rb.hold) ⟨fun db => @WO _ (f [da, db]) ⟨fun v => match v with
      | .im (.bl b) => @WB b ⟨@W _ mc e2 ⟨fun rc e3 => @WO _ (cnt e3 rb.hold) ⟨fun db' => @WO _ (cnt e3 rc.hold) ⟨fun dc => @WO _ (h [db', dc]) ⟨fun v => match v with | .im d => Q (.im d) e3 | _ => False⟩⟩⟩⟩, Q (.im (.bl false)) e2⟩
      | _ => False⟩⟩⟩⟩⟩ := by
  unfold eChain
  simp only [W_eq, WO_eq, bd]
  cases ma e with
  | none => rfl
  | some p =>
    dsimp only
    cases mb p.2 with
    | none => rfl
    | some q =>
      dsimp only
      cases cnt q.2 p.1.hold with
      | none => rfl
      | some da =>
        cases cnt q.2 q.1.hold with
        | none => rfl
        | some db =>
          dsimp only
          cases f [da, db] with
          | none => rfl
          | some v =>
            cases v with
            | fr d => rfl
            | bo i => rfl
            | im d =>
              cases d with
              | bl b =>
                cases b with
                | false =>
                  simp only [WB_eq]
                | true =>
                  simp only [WB_eq, W_eq, WO_eq, bd]
                  cases mc q.2 with
                  | none => rfl
                  | some w =>
                    dsimp only
                    cases cnt w.2 q.1.hold with
                    | none => rfl
                    | some db' =>
                      cases cnt w.2 w.1.hold with
                      | none => rfl
                      | some dc =>
                        dsimp only
                        cases h [db', dc] with
                        | none => rfl
                        | some v => cases v <;> rfl
              | _ => rfl
theorem W_sNil {Q : Fl → Env → Prop} : @W _ sNil e ⟨Q⟩ = Q .nx e := W_eq
theorem W_sPass {Q : Fl → Env → Prop} : @W _ sPass e ⟨Q⟩ = Q .nx e := W_eq
theorem W_sBrk {Q : Fl → Env → Prop} : @W _ sBrk e ⟨Q⟩ = Q .bk e := W_eq
theorem W_sCnt {Q : Fl → Env → Prop} : @W _ sCnt e ⟨Q⟩ = Q .ct e := W_eq
theorem W_sRetN {Q : Fl → Env → Prop} : @W _ sRetN e ⟨Q⟩ = Q (.rt (.im .non)) e := W_eq
theorem W_sSeq {m n : SM} {Q : Fl → Env → Prop} : @W _ (sSeq m n) e ⟨Q⟩ = @W _ m e ⟨fun fl e' => match fl with | .nx => @W _ n e' ⟨Q⟩ | .bk => Q .bk e' | .ct => Q .ct e' | .rt r => Q (.rt r) e'⟩ := by
  unfold sSeq
  simp only [W_eq]
  cases m e with
  | none => rfl
  | some p =>
    obtain ⟨fl, e'⟩ := p
    cases fl <;> rfl
theorem W_sExp {m : M Vl} {Q : Fl → Env → Prop} : @W _ (sExp m) e ⟨Q⟩ = @W _ m e ⟨fun _ e' => Q .nx e'⟩ := by
  unfold sExp
  simp only [W_eq]
  cases m e <;> rfl
theorem W_sRet {m : M Vl} {Q : Fl → Env → Prop} : @W _ (sRet m) e ⟨Q⟩ = @W _ m e ⟨fun r e' => Q (.rt r) e'⟩ := by
  unfold sRet
  simp only [W_eq]
  cases m e <;> rfl
theorem W_sIf {c : M Bool} {m n : SM} {Q : Fl → Env → Prop} : @W _ (sIf c m n) e ⟨Q⟩ = @W _ c e ⟨fun b e' => @WB b ⟨@W _ m e' ⟨Q⟩, @W _ n e' ⟨Q⟩⟩⟩ := by
  unfold sIf
  simp only [W_eq, WB_eq]
  cases c e with
  | none => rfl
  | some p =>
    obtain ⟨b, e1⟩ := p
    cases b <;> simp only [if_true, Bool.false_eq_true, if_false, W_eq]
theorem W_sAsg {m : M Vl} {g : Vl → M Unit} {Q : Fl → Env → Prop} : @W _ (sAsg m g) e ⟨Q⟩ = @W _ m e ⟨fun r e1 => @W _ (g r) e1 ⟨fun _ e2 => Q .nx e2⟩⟩ := by
  unfold sAsg
  simp only [W_eq]
  cases m e with
  | none => rfl
  | some p =>
    dsimp only
    cases g p.1 p.2 <;> rfl
theorem W_gsN {Q : Unit → Env → Prop} : @W _ (gsN []) e ⟨Q⟩ = Q () e := W_eq
theorem W_gsC {g : Vl → M Unit} {gs : List D → M Unit} {d : D} {r : List D} {Q : Unit → Env → Prop} : @W _ (gsC g gs (d :: r)) e ⟨Q⟩ = @W _ (g (.im d)) e ⟨fun _ e1 => @W _ (gs r) e1 ⟨Q⟩⟩ := by
  unfold gsC
  simp only [W_eq]
  cases g (.im d) e <;> rfl
theorem W_gT {n : Nat} {gs : List D → M Unit} {ds : List D} {Q : Unit → Env → Prop} : @W _ (gT n gs (.im (.tup ds))) e ⟨Q⟩ = @WC (decide (ds.length = n)) ⟨@W _ (gs ds) e ⟨Q⟩⟩ := by
  unfold gT WC
  simp only [W_eq]
  by_cases h : ds.length = n <;> simp [h]
theorem W_gS {f : D → D → D → Option D} {m mi : M Vl} {r : Vl} {Q : Unit → Env → Prop} : @W _ (gS f m mi r) e ⟨Q⟩ =
    @W _ (frz r.hold) e ⟨fun d e0 => @W _ m e0 ⟨fun r0 e1 => match r0 with
      | .bo i => @W _ mi e1 ⟨fun r1 e2 => @WO _ (mutAtD e2 i) ⟨fun d0 => @WO _ (cnt e2 r1.hold) ⟨fun k => @WO _ (f d0 k d) ⟨fun d' => @WO _ (putO e2 i d') ⟨fun e3 => Q () e3⟩⟩⟩⟩⟩
      | .im _ => False
      | .fr _ => False⟩⟩ := by
  unfold gS
  simp only [W_eq, WO_eq, bd]
  cases frz r.hold e with
  | none => rfl
  | some p =>
    dsimp only
    cases m p.2 with
    | none => rfl
    | some q =>
      obtain ⟨r0, e1⟩ := q
      cases r0 with
      | im d => rfl
      | fr d => rfl
      | bo i =>
        simp only [bd]
        cases mi e1 with
        | none => rfl
        | some w =>
          dsimp only
          cases mutAtD w.2 i with
          | none => rfl
          | some d0 =>
            cases cnt w.2 w.1.hold with
            | none => rfl
            | some k =>
              dsimp only
              cases f d0 k p.1 <;> rfl
theorem W_hb_im {d : D} {Q : Vl → Env → Prop} : @W _ (hb (.im d)) e ⟨Q⟩ = Q (.im d) e := W_eq
theorem W_hb_fr {d : D} {Q : Vl → Env → Prop} : @W _ (hb (.fr d)) e ⟨Q⟩ = Q (.fr d) e := W_eq
theorem W_hb_bo {i : Nat} {Q : Vl → Env → Prop} : @W _ (hb (.bo i)) e ⟨Q⟩ = @W _ (frz (.bo i)) e ⟨fun d e' => Q (.im d) e'⟩ := by
  show @W _ (bd (frz (.bo i)) fun d => rt (.im d)) e ⟨Q⟩ = _
  simp only [W_eq, bd]
  cases frz (.bo i) e <;> rfl
theorem W_sPF {i j : Nat} {m n : M Vl} {Q : Fl → Env → Prop} : @W _ (sPF i j m n) e ⟨Q⟩ = @W _ m e ⟨fun r e0 => @W _ (hb r) e0 ⟨fun r1 e1 => @W _ n e1 ⟨fun s e2 => @W _ (hb s) e2 ⟨fun r2 e3 => @W _ (gN j r2) e3 ⟨fun _ e4 => @W _ (gN i r1) e4 ⟨fun _ e5 => Q .nx e5⟩⟩⟩⟩⟩⟩ := by
  unfold sPF
  simp only [W_eq, bd]
  cases m e with
  | none => rfl
  | some p =>
    dsimp only
    cases hb p.1 p.2 with
    | none => rfl
    | some q =>
      dsimp only
      cases n q.2 with
      | none => rfl
      | some w =>
        dsimp only
        cases hb w.1 w.2 with
        | none => rfl
        | some z =>
          dsimp only
          cases gN j z.1 z.2 with
          | none => rfl
          | some y =>
            dsimp only
            cases gN i q.1 y.2 <;> rfl
theorem W_sPF3 {i j l : Nat} {m n o : M Vl} {Q : Fl → Env → Prop} : @W _ (sPF3 i j l m n o) e ⟨Q⟩ = @W _ m e ⟨fun r e0 => @W _ (hb r) e0 ⟨fun r1 e1 => @W _ n e1 ⟨fun s e2 => @W _ (hb s) e2 ⟨fun r2 e3 => @W _ o e3 ⟨fun t f0 => @W _ (hb t) f0 ⟨fun r3 f1 => @W _ (gN l r3) f1 ⟨fun _ f2 => @W _ (gN j r2) f2 ⟨fun _ e4 => @W _ (gN i r1) e4 ⟨fun _ e5 => Q .nx e5⟩⟩⟩⟩⟩⟩⟩⟩⟩ := by
  unfold sPF3
  simp only [W_eq, bd]
  cases m e with
  | none => rfl
  | some p =>
    dsimp only
    cases hb p.1 p.2 with
    | none => rfl
    | some q =>
      dsimp only
      cases n q.2 with
      | none => rfl
      | some w =>
        dsimp only
        cases hb w.1 w.2 with
        | none => rfl
        | some z =>
          dsimp only
          cases o z.2 with
          | none => rfl
          | some a =>
            dsimp only
            cases hb a.1 a.2 with
            | none => rfl
            | some b =>
              dsimp only
              cases gN l b.1 b.2 with
              | none => rfl
              | some c =>
                dsimp only
                cases gN j z.1 c.2 with
                | none => rfl
                | some y =>
                  dsimp only
                  cases gN i q.1 y.2 <;> rfl
end
end PD
namespace PD
variable [PD.TabL]
open PySem PySem.Spec PyProof.Rows L2
def eCallF (F : Fs) (ms : M (List Vl)) : M Vl := bd ms fun rs => bd (frzA F.sig rs) (callE F)
def eCallN (F : Fs) (ms : M (List Vl)) : M Vl := bd ms (callE F)
section
variable {K : PySem.W.Frag} {A : Anc}
theorem sx_callF {F : Fs} {t : TA} {ms : M (List Vl)} (h : SAX K A t ms) : SEX K A (tCall (spF K F) [] E0 t) (eCallF F ms) := fun σ τ B H env pe env' r Q S hl e q => by
  obtain ⟨rs, e1, he, e⟩ := bd_inv e
  refine h σ τ B H env pe e1 rs _ S hl he fun B1 H1 vs s1 hl1 S1 hr => ?_
  show spF K F (vs ++ []) H1 Q E0
  rw [List.append_nil]
  obtain ⟨rs2, e2, h2, e⟩ := bd_inv e
  obtain ⟨B2, s2, S2, hl2, p2⟩ := frzA_ok S1 hl1 hr h2
  exact callE_ok S2 hl2 p2 e Q (fun B3 H3 v s3 => q B3 H3 v ((s1.trans s2).trans s3)) _
end
section
variable {g : G0} {c : Ct} {e : Expr} {es : List Expr} {pos p : Pos} {ms : M (List Vl)}
theorem ee_callX {x : Str} {k : Nat} {F : Fs} {m' : M Vl} (hs : ∀ A t, SAX g.K A t ms → SEX g.K A (tCall (spF g.K F) [] E0 t) m') (hF : FnI g x k F) (hk : k ≤ c.k) (hg : GlC c x) (h : EA g c (e :: es) ms) (pl : Pl e) (hpl : ∀ env : PySem.Env, (backTo pos (starEach es env)).any (·.1) = false) (hdb : (x == ("__debug__" : Str)) = false) :
    EE g c (.Call (.Name x p) (e :: es) [] pos) m' := by
  obtain ⟨f, fd, ps, f1, f2, f3, f4⟩ := hF.ex
  obtain ⟨t, h1, h2⟩ := h
  refine ⟨tCall (spF g.K F) [] E0 t, fun X hX => ⟨fun pins s σ H Q I hq => ?_⟩, fun A => hs A t (h2 A)⟩
  refine wpAny_Call_Name_kw (ld_glob I (gl_of hX hg) (by rw [hX.em]; exact f1) ?_ hdb)
  have hkp : PySem.W.keepIn X.K (.ref f) = true := by rw [hX.eK]; exact f2
  refine PySem.W.callWith_K (h₀ := X.base) I.ok.mod.kin hkp (thn ((h1 X hX).run pos pins s σ H _ I hq) fun us s1 ⟨vs, H1, I1, r, q⟩ => ⟨I1.kIn, ?_⟩) (pl es X.env) (hpl X.env)
  refine runG hX f4 hk f3 I1 r ?_
  have q : spF g.K F (vs ++ []) H1 Q E0 := q
  rwa [List.append_nil] at q
theorem ee_callF {x : Str} {k : Nat} {F : Fs} (hF : FnI g x k F) (hk : k ≤ c.k) (hg : GlC c x) (h : EA g c (e :: es) ms) (pl : Pl e) (hpl : ∀ env : PySem.Env, (backTo pos (starEach es env)).any (·.1) = false) (hdb : (x == ("__debug__" : Str)) = false) :
    EE g c (.Call (.Name x p) (e :: es) [] pos) (eCallF F ms) := ee_callX (fun A t h => sx_callF h) hF hk hg h pl hpl hdb
end

section
variable {e : Env}
theorem W_frzA_nil {sig : List Bool} {Q : List Vl → Env → Prop} : @W _ (frzA sig []) e ⟨Q⟩ = Q [] e := by
  cases sig with
  | nil => exact W_eq
  | cons b bs => cases b <;> exact W_eq
theorem W_frzA_t {sig : List Bool} {v : Vl} {rs : List Vl} {Q : List Vl → Env → Prop} : @W _ (frzA (true :: sig) (v :: rs)) e ⟨Q⟩ = @W _ (frzA sig rs) e ⟨fun r e' => Q (v :: r) e'⟩ := by
  show @W _ (bd (frzA sig rs) fun r => rt (v :: r)) e ⟨Q⟩ = _
  simp only [W_eq, bd]
  cases frzA sig rs e <;> rfl
theorem W_frzA_im {sig : List Bool} {d : D} {rs : List Vl} {Q : List Vl → Env → Prop} : @W _ (frzA (false :: sig) (.im d :: rs)) e ⟨Q⟩ = @W _ (frzA sig rs) e ⟨fun r e' => Q (.im d :: r) e'⟩ := by
  show @W _ (bd (frzA sig rs) fun r => rt (.im d :: r)) e ⟨Q⟩ = _
  simp only [W_eq, bd]
  cases frzA sig rs e <;> rfl
theorem W_frzA_bo {sig : List Bool} {i : Nat} {rs : List Vl} {Q : List Vl → Env → Prop} : @W _ (frzA (false :: sig) (.bo i :: rs)) e ⟨Q⟩ = @WO _ (frzO e i) ⟨fun p => @W _ (frzA sig rs) p.2 ⟨fun r e' => Q (.im p.1 :: r) e'⟩⟩ := by
  show @W _ (bd (frz (.bo i)) fun d => bd (frzA sig rs) fun r => rt (.im d :: r)) e ⟨Q⟩ = _
  simp only [W_eq, WO_eq, bd, frzO]
  cases frz (.bo i) e with
  | none => rfl
  | some p =>
    dsimp only
    cases frzA sig rs p.2 <;> rfl
theorem W_callE {F : Fs} {rs : List Vl} {Q : Vl → Env → Prop} : @W _ (callE F rs) e ⟨Q⟩ = @WO _ (cnts e rs) ⟨fun ds => @WC (ioAll e F.sig rs && decide (ioIx F.sig rs).Nodup && disj (ioIx F.sig rs) (brIx e F.sig rs)) ⟨@WO _ (F.sem ds) ⟨fun p =>
    @WC ((brIx e F.sig rs).isEmpty || (p.1.nm && nmOut F.sig p.2)) ⟨@WO _ (some (updE F.sig rs p.2 e)) ⟨fun e' => Q p.1 e'⟩⟩⟩⟩⟩ := by
  unfold callE
  simp only [W_eq, WO_eq, WC_eq]
  cases cnts e rs with
  | none => rfl
  | some ds =>
    dsimp only
    cases (ioAll e F.sig rs && decide (ioIx F.sig rs).Nodup && disj (ioIx F.sig rs) (brIx e F.sig rs)) with
    | false => rfl
    | true =>
      rw [if_pos rfl]
      dsimp only
      try rw [WO_eq]
      cases F.sem ds with
      | none => rfl
      | some p =>
        obtain ⟨r, ds'⟩ := p
        dsimp only
        try rw [WC_eq]
        cases ((brIx e F.sig rs).isEmpty || (r.nm && nmOut F.sig ds')) with
        | false => rfl
        | true =>
          rw [if_pos rfl]
          try rw [WO_eq]
theorem W_eCallN {F : Fs} {ms : M (List Vl)} {Q : Vl → Env → Prop} : @W _ (eCallN F ms) e ⟨Q⟩ = @W _ ms e ⟨fun rs e' => @W _ (callE F rs) e' ⟨Q⟩⟩ := W_bd
theorem W_eCallF {F : Fs} {ms : M (List Vl)} {Q : Vl → Env → Prop} : @W _ (eCallF F ms) e ⟨Q⟩ = @W _ ms e ⟨fun rs e' => @W _ (frzA F.sig rs) e' ⟨fun rs' e2 => @W _ (callE F rs') e2 ⟨Q⟩⟩⟩ := by
  unfold eCallF
  simp only [W_eq, bd]
  cases ms e with
  | none => rfl
  | some p =>
    dsimp only
    cases frzA F.sig p.1 p.2 with
    | none => rfl
    | some q =>
      dsimp only
theorem WO_runF {sig : List Bool} {n : Nat} {body : SM} {ds : List D} {K : Vl × List D → Prop} : @WO _ (runF sig n body ds) ⟨K⟩ = @WC (decide (ds.length = sig.length)) ⟨@WO _ (some (mkE 0 sig ds ++ List.replicate (n - ds.length) .em)) ⟨fun e0 => @W _ body e0 ⟨fun fl e1 => match fl with
    | .nx => @WO _ (outE sig 0 e1 ds) ⟨fun o => K (.im .non, o)⟩
    | .rt r => @WO _ (retV e1 r) ⟨fun r' => @WO _ (outE sig 0 e1 ds) ⟨fun o => K (r', o)⟩⟩
    | .bk => False
    | .ct => False⟩⟩⟩ := by
  unfold runF
  by_cases h : ds.length = sig.length
  · rw [if_pos h]
    simp only [W_eq, WO_eq, WC_eq, h, decide_true]
    cases body (mkE 0 sig ds ++ List.replicate (n - sig.length) Sl.em) with
    | none => rfl
    | some p =>
      obtain ⟨fl, e1⟩ := p
      cases fl with
      | nx =>
        dsimp only
        try rw [WO_eq]
        cases outE sig 0 e1 ds <;> rfl
      | bk => rfl
      | ct => rfl
      | rt r =>
        dsimp only
        try rw [WO_eq]
        cases retV e1 r with
        | none => rfl
        | some r' =>
          dsimp only
          try rw [WO_eq]
          cases outE sig 0 e1 ds <;> rfl
  · rw [if_neg h]
    simp only [WO_eq, WC_eq, h, decide_false]
def rg1 : List D → Option (List D)
  | [.int j] => if in62 j = true then some (rngD 0 j.toNat) else none
  | _ => none
def rg2 : List D → Option (List D)
  | [.int i, .int j] => if (in62 i && in62 j) = true then some (rngD i (j - i).toNat) else none
  | _ => none
theorem W_mR1 {ms : M (List Vl)} {Q : List D → Env → Prop} : @W _ (mR1 ms) e ⟨Q⟩ = @W _ ms e ⟨fun rs e' => @WO _ (cnts e' rs) ⟨fun ds => @WO _ (rg1 ds) ⟨fun l => Q l e'⟩⟩⟩ := by
  unfold mR1
  simp only [W_eq, WO_eq, bd]
  cases ms e with
  | none => rfl
  | some p =>
    dsimp only
    try rw [WO_eq]
    cases cnts p.2 p.1 with
    | none => rfl
    | some ds =>
      dsimp only
      try rw [WO_eq]
      unfold rg1
      split
      · rename_i j h
        split at h
        · rename_i j' hj
          cases hj
          split at h
          · rename_i hh
            cases h
            simp only [hh, if_true]
          · cases h
        · cases h
      · rename_i h
        split at h
        · rename_i j' hj
          cases hj
          split at h
          · cases h
          · rename_i hh
            simp only [hh, if_false]
            rfl
        · rename_i hj
          split
          · rename_i z hz
            split at hz
            · rename_i q
              exact absurd rfl (hj _)
            · cases hz
          · rfl
theorem W_mR2 {ms : M (List Vl)} {Q : List D → Env → Prop} : @W _ (mR2 ms) e ⟨Q⟩ = @W _ ms e ⟨fun rs e' => @WO _ (cnts e' rs) ⟨fun ds => @WO _ (rg2 ds) ⟨fun l => Q l e'⟩⟩⟩ := by
  unfold mR2
  simp only [W_eq, WO_eq, bd]
  cases ms e with
  | none => rfl
  | some p =>
    dsimp only
    try rw [WO_eq]
    cases cnts p.2 p.1 with
    | none => rfl
    | some ds =>
      dsimp only
      try rw [WO_eq]
      unfold rg2
      split
      · rename_i j h
        split at h
        · rename_i j' hj
          cases hj
          split at h
          · rename_i hh
            cases h
            simp only [hh, if_true]
          · cases h
        · cases h
      · rename_i h
        split at h
        · rename_i j' hj
          cases hj
          split at h
          · cases h
          · rename_i hh
            simp only [hh, if_false]
            rfl
        · rename_i hj
          split
          · rename_i z hz
            split at hz
            · rename_i q
              exact absurd rfl (hj _ _)
            · cases hz
          · rfl
def seqL : D → Option (List D)
  | .lst ds => some ds
  | _ => none
def seqT : D → Option (List D)
  | .tup ds => some ds
  | .tp ds => some ds
  | _ => none
theorem W_mLst {m : M Vl} {Q : List D → Env → Prop} : @W _ (mLst m) e ⟨Q⟩ = @W _ m e ⟨fun r e1 => @W _ (frz r.hold) e1 ⟨fun d e2 => @WO _ (seqL d) ⟨fun l => Q l e2⟩⟩⟩ := by
  unfold mLst
  simp only [W_eq, WO_eq, bd]
  cases m e with
  | none => rfl
  | some p =>
    dsimp only
    try rw [W_eq]
    cases frz p.1.hold p.2 with
    | none => rfl
    | some q =>
      obtain ⟨d, e2⟩ := q
      dsimp only
      try rw [WO_eq]
      cases d <;> rfl
theorem W_mTup {m : M Vl} {Q : List D → Env → Prop} : @W _ (mTup m) e ⟨Q⟩ = @W _ m e ⟨fun r e1 => @W _ (frz r.hold) e1 ⟨fun d e2 => @WO _ (seqT d) ⟨fun l => Q l e2⟩⟩⟩ := by
  unfold mTup
  simp only [W_eq, WO_eq, bd]
  cases m e with
  | none => rfl
  | some p =>
    dsimp only
    try rw [W_eq]
    cases frz p.1.hold p.2 with
    | none => rfl
    | some q =>
      obtain ⟨d, e2⟩ := q
      dsimp only
      try rw [WO_eq]
      cases d <;> rfl
theorem W_mEnum {m : M Vl} {Q : List D → Env → Prop} : @W _ (mEnum m) e ⟨Q⟩ = @W _ m e ⟨fun r e1 => @W _ (frz r.hold) e1 ⟨fun d e2 => @WO _ (seqL d) ⟨fun l => Q (enumD 0 l) e2⟩⟩⟩ := by
  unfold mEnum
  simp only [W_eq, WO_eq, bd]
  cases m e with
  | none => rfl
  | some p =>
    dsimp only
    try rw [W_eq]
    cases frz p.1.hold p.2 with
    | none => rfl
    | some q =>
      obtain ⟨d, e2⟩ := q
      dsimp only
      try rw [WO_eq]
      cases d <;> rfl
theorem W_mStr {m : M Vl} {Q : List D → Env → Prop} : @W _ (mStr m) e ⟨Q⟩ = @W _ m e ⟨fun r e1 => match r with | .im (.str x) => Q (chD x) e1 | _ => False⟩ := by
  unfold mStr
  simp only [W_eq, bd]
  cases m e with
  | none => rfl
  | some p =>
    obtain ⟨r, e1⟩ := p
    cases r with
    | im d => cases d <;> rfl
    | fr d => rfl
    | bo i => rfl
def zipO : List D → Option (List D)
  | [.lst a, .lst b] => some (zipD a b)
  | [.tup a, .tup b] => some (zipD a b)
  | [.tp a, .tp b] => some (zipD a b)
  | [.tp a, .tup b] => some (zipD a b)
  | [.tup a, .tp b] => some (zipD a b)
  | _ => none
theorem W_mZip {ms : M (List Vl)} {Q : List D → Env → Prop} : @W _ (mZip ms) e ⟨Q⟩ = @W _ ms e ⟨fun rs e1 => @W _ (frzs rs) e1 ⟨fun ds e2 => @WO _ (zipO ds) ⟨fun l => Q l e2⟩⟩⟩ := by
  unfold mZip
  simp only [W_eq, WO_eq, bd]
  cases ms e with
  | none => rfl
  | some p =>
    dsimp only
    try rw [W_eq]
    cases frzs p.1 p.2 with
    | none => rfl
    | some q =>
      obtain ⟨ds, e2⟩ := q
      dsimp only
      try rw [WO_eq]
      match ds with
      | [] => rfl
      | [d] => cases d <;> rfl
      | [d, d'] => cases d <;> cases d' <;> rfl
      | d :: d' :: _ :: _ => cases d <;> cases d' <;> rfl
theorem W_sFor {mi : M (List D)} {g : Vl → M Unit} {b : SM} {Q : Fl → Env → Prop} : @W _ (sFor mi g b) e ⟨Q⟩ = @W _ mi e ⟨fun ds e1 => @W _ (forL g b ds) e1 ⟨Q⟩⟩ := by
  unfold sFor
  simp only [W_eq]
  cases mi e with
  | none => rfl
  | some p => rfl
theorem W_sWhl {n : Nat} {c : M Bool} {b : SM} {Q : Fl → Env → Prop} : @W _ (sWhl n c b) e ⟨Q⟩ = @W _ (whlL c b n) e ⟨Q⟩ := rfl
def goesOn (P : Env → Prop) (Q : Fl → Env → Prop) : Fl → Env → Prop
  | .nx, e => P e
  | .ct, e => P e
  | .bk, e => Q .nx e
  | .rt v, e => Q (.rt v) e
theorem goes_nx {P : Env → Prop} {Q : Fl → Env → Prop} {e : Env} : goesOn P Q .nx e = P e := rfl
theorem goes_ct {P : Env → Prop} {Q : Fl → Env → Prop} {e : Env} : goesOn P Q .ct e = P e := rfl
theorem goes_bk {P : Env → Prop} {Q : Fl → Env → Prop} {e : Env} : goesOn P Q .bk e = Q .nx e := rfl
theorem goes_rt {P : Env → Prop} {Q : Fl → Env → Prop} {v : Vl} {e : Env} : goesOn P Q (.rt v) e = Q (.rt v) e := rfl
theorem W_for_at {g : Vl → M Unit} {b : SM} {Q : Fl → Env → Prop} {P : Nat → Env → Prop} : ∀ {ds : List D} {k : Nat} {e : Env}, P k e →
    (∀ i d e, ds[i]? = some d → P (k + i) e → @W _ (g (.im d)) e ⟨fun _ e1 => @W _ b e1 ⟨goesOn (P (k + i + 1)) Q⟩⟩) →
    (∀ e, P (k + ds.length) e → Q .nx e) → @W _ (forL g b ds) e ⟨Q⟩
  | [], k, e, p, _, q => ⟨_, _, rfl, q e p⟩
  | d :: ds, k, e, p, h, q => by
    obtain ⟨_, e1, h1, fl, e2, h2, h3⟩ := h 0 d e rfl p
    have next : P (k + 1) e2 → @W _ (forL g b ds) e2 ⟨Q⟩ := fun p' => W_for_at (k := k + 1) p' (fun i d e hd hp => by
      have := h (i + 1) d e hd (by rw [show k + (i + 1) = k + 1 + i by omega]; exact hp)
      rwa [show k + (i + 1) + 1 = k + 1 + i + 1 by omega] at this) fun e hp => q e (by rw [List.length_cons, show k + (ds.length + 1) = k + 1 + ds.length by omega]; exact hp)
    have e0 : forL g b (d :: ds) e = match fl with
      | .nx => forL g b ds e2
      | .ct => forL g b ds e2
      | .bk => some (.nx, e2)
      | .rt v => some (.rt v, e2) := by
      rw [forL]
      simp only [h1, h2]
      cases fl <;> rfl
    cases fl with
    | nx =>
      obtain ⟨fl, e3, h4, h5⟩ := next h3
      exact ⟨fl, e3, e0.trans h4, h5⟩
    | ct =>
      obtain ⟨fl, e3, h4, h5⟩ := next h3
      exact ⟨fl, e3, e0.trans h4, h5⟩
    | bk => exact ⟨_, _, e0, h3⟩
    | rt v => exact ⟨_, _, e0, h3⟩
theorem W_for (P : Nat → Env → Prop) {g : Vl → M Unit} {b : SM} {Q : Fl → Env → Prop} {ds : List D} (h0 : P 0 e)
    (hs : ∀ i d e, ds[i]? = some d → P i e → @W _ (g (.im d)) e ⟨fun _ e1 => @W _ b e1 ⟨goesOn (P (i + 1)) Q⟩⟩)
    (hq : ∀ e, P ds.length e → Q .nx e) : @W _ (forL g b ds) e ⟨Q⟩ :=
  W_for_at (P := P) (k := 0) h0 (fun i d e hd hp => by
    rw [Nat.zero_add] at hp ⊢
    exact hs i d e hd hp) fun e hp => hq e (by rwa [Nat.zero_add] at hp)
theorem W_eComp {vs : List Nat} {mi : M (List D)} {g : Vl → M Unit} {tt : M Bool} {te : M Vl} {Q : Vl → Env → Prop} : @W _ (eComp vs mi g tt te) e ⟨Q⟩ =
    @W _ mi e ⟨fun ds e1 => @WC (vs.all fun v => calmS e1[v]?) ⟨@WO _ (some (wipeE e1 vs)) ⟨fun e2 => @W _ (compL vs g tt te ds) e2 ⟨fun ys e3 => @WC (small ys.length) ⟨@WO _ (some (unwipe e1 e3 vs)) ⟨fun e4 => Q (.fr (.lst ys)) e4⟩⟩⟩⟩⟩⟩ := by
  unfold eComp
  simp only [W_eq]
  cases mi e with
  | none => rfl
  | some p =>
    dsimp only
    try rw [WC_eq]
    cases (vs.all fun v => calmS p.2[v]?) with
    | false => rfl
    | true =>
      dsimp only
      rw [WO_some, W_eq]
      simp only [if_true]
      cases compL vs g tt te p.1 (wipeE p.2 vs) with
      | none => rfl
      | some q =>
        dsimp only
        try rw [WC_eq]
        cases small q.1.length with
        | false => rfl
        | true =>
          dsimp only
          rw [WO_some]
          rfl
theorem W_comp_at {vs : List Nat} {g : Vl → M Unit} {tt : M Bool} {te : M Vl} {P : Nat → List D → Env → Prop} : ∀ {ds : List D} {k : Nat} {ys : List D} {e : Env} {Q : List D → Env → Prop}, P k ys e →
    (∀ i d ys e, ds[i]? = some d → P (k + i) ys e → @W _ (g (.im d)) e ⟨fun _ e1 => @W _ tt e1 ⟨fun b e2 => @WB b ⟨@W _ te e2 ⟨fun r e3 => @W _ (frz r.hold) e3 ⟨fun y e4 => @WO _ (some (wipeE e4 vs)) ⟨fun e5 => P (k + i + 1) (ys ++ [y]) e5⟩⟩⟩, @WO _ (some (wipeE e2 vs)) ⟨fun e5 => P (k + i + 1) ys e5⟩⟩⟩⟩) →
    (∀ zs e, P (k + ds.length) (ys ++ zs) e → Q zs e) → @W _ (compL vs g tt te ds) e ⟨Q⟩
  | [], k, ys, e, Q, p, _, q => ⟨[], e, rfl, q [] e (by rw [List.append_nil]; exact p)⟩
  | d :: ds, k, ys, e, Q, p, h, q => by
    obtain ⟨_, e1, h1, b, e2, h2, h3⟩ := h 0 d ys e rfl p
    have nx : ∀ {ys' : List D} {e' : Env} {Q' : List D → Env → Prop}, P (k + 1) ys' e' → (∀ zs e, P (k + 1 + ds.length) (ys' ++ zs) e → Q' zs e) → @W _ (compL vs g tt te ds) e' ⟨Q'⟩ := fun p' q' => W_comp_at (k := k + 1) p' (fun i d ys e hd hp => by
      have := h (i + 1) d ys e hd (by rw [show k + (i + 1) = k + 1 + i by omega]; exact hp)
      rwa [show k + (i + 1) + 1 = k + 1 + i + 1 by omega] at this) q'
    have hk : k + 1 + ds.length = k + (d :: ds).length := by rw [List.length_cons]; omega
    cases b with
    | false =>
      have h3 : @WB false ⟨_, @WO _ (some (wipeE e2 vs)) ⟨fun e5 => P (k + 0 + 1) ys e5⟩⟩ := h3
      rw [WB_false, WO_some] at h3
      obtain ⟨zs, e3, h4, h5⟩ := nx (Q' := Q) h3 fun zs e hp => q zs e (by rw [← hk]; exact hp)
      refine ⟨zs, e3, ?_, h5⟩
      rw [compL]
      simp only [h1, h2, h4]
    | true =>
      have h3 : @WB true ⟨@W _ te e2 ⟨fun r e3 => @W _ (frz r.hold) e3 ⟨fun y e4 => @WO _ (some (wipeE e4 vs)) ⟨fun e5 => P (k + 0 + 1) (ys ++ [y]) e5⟩⟩⟩, _⟩ := h3
      rw [WB_true] at h3
      obtain ⟨r, e3, h4, y, e4, h5, h6⟩ := h3
      have h6 : @WO _ (some (wipeE e4 vs)) ⟨fun e5 => P (k + 0 + 1) (ys ++ [y]) e5⟩ := h6
      rw [WO_some] at h6
      obtain ⟨zs, e5, h7, h8⟩ := nx (Q' := fun zs e => Q (y :: zs) e) h6 fun zs e hp => q (y :: zs) e (by rw [← hk]; rwa [List.append_assoc] at hp)
      refine ⟨y :: zs, e5, ?_, h8⟩
      rw [compL]
      simp only [h1, h2, h4, h5, h7]
/-- by an invariant of what was told so far -/
theorem W_comp (P : Nat → List D → Env → Prop) {vs : List Nat} {g : Vl → M Unit} {tt : M Bool} {te : M Vl} {Q : List D → Env → Prop} {ds : List D} (h0 : P 0 [] e)
    (hs : ∀ i d ys e, ds[i]? = some d → P i ys e → @W _ (g (.im d)) e ⟨fun _ e1 => @W _ tt e1 ⟨fun b e2 => @WB b ⟨@W _ te e2 ⟨fun r e3 => @W _ (frz r.hold) e3 ⟨fun y e4 => @WO _ (some (wipeE e4 vs)) ⟨fun e5 => P (i + 1) (ys ++ [y]) e5⟩⟩⟩, @WO _ (some (wipeE e2 vs)) ⟨fun e5 => P (i + 1) ys e5⟩⟩⟩⟩)
    (hq : ∀ ys e, P ds.length ys e → Q ys e) : @W _ (compL vs g tt te ds) e ⟨Q⟩ :=
  W_comp_at (P := P) (k := 0) h0 (fun i d ys e hd hp => by
    rw [Nat.zero_add] at hp ⊢
    exact hs i d ys e hd hp) fun ys e hp => hq ys e (by rwa [Nat.zero_add] at hp)
end
end PD
namespace PD
variable [PD.TabL]
open PySem PySem.Spec PyProof.Rows L2
section
variable {α : Type} {a b c d e f g h i : α} {l : List α}
theorem at0 : L2.atI (a :: l) 0 = some a := at_nat (j := 0) rfl
theorem at1 : L2.atI (a :: b :: l) 1 = some b := at_nat (j := 1) rfl
theorem at2 : L2.atI (a :: b :: c :: l) 2 = some c := at_nat (j := 2) rfl
theorem at3 : L2.atI (a :: b :: c :: d :: l) 3 = some d := at_nat (j := 3) rfl
theorem at4 : L2.atI (a :: b :: c :: d :: e :: l) 4 = some e := at_nat (j := 4) rfl
theorem at5 : L2.atI (a :: b :: c :: d :: e :: f :: l) 5 = some f := at_nat (j := 5) rfl
theorem at6 : L2.atI (a :: b :: c :: d :: e :: f :: g :: l) 6 = some g := at_nat (j := 6) rfl
theorem at7 : L2.atI (a :: b :: c :: d :: e :: f :: g :: h :: l) 7 = some h := at_nat (j := 7) rfl
theorem ixN_nat {n j : Nat} (h : j < n) : L2.ixN n (j : Int) = some j := by
  unfold L2.ixN
  rw [if_pos (by omega), if_pos (by omega)]
  rfl
theorem setDk_at {ds : List D} {j : Nat} {x : D} (h : j < ds.length) : setDk (.lst ds) (.int (j : Int)) x = some (.lst (ds.set j x)) := by
  show (match L2.ixN ds.length (j : Int) with | some j => some (D.lst (ds.set j x)) | none => none) = _
  rw [ixN_nat h]
theorem sd0 {a x : D} {l : List D} : setDk (.lst (a :: l)) (.int 0) x = some (.lst (x :: l)) := setDk_at (j := 0) (by simp)
theorem sd1 {a b x : D} {l : List D} : setDk (.lst (a :: b :: l)) (.int 1) x = some (.lst (a :: x :: l)) := setDk_at (j := 1) (by simp)
theorem sd2 {a b c x : D} {l : List D} : setDk (.lst (a :: b :: c :: l)) (.int 2) x = some (.lst (a :: b :: x :: l)) := setDk_at (j := 2) (by simp)
theorem sd3 {a b c d x : D} {l : List D} : setDk (.lst (a :: b :: c :: d :: l)) (.int 3) x = some (.lst (a :: b :: c :: x :: l)) := setDk_at (j := 3) (by simp)
theorem WO_map {β : Type} {o : Option α} {f : α → β} {K : β → Prop} : @WO _ (o.map f) ⟨K⟩ = @WO _ o ⟨fun a => K (f a)⟩ := by
  simp only [WO_eq]
  cases o <;> rfl
/-- an index within a list -/
theorem WO_at {l : List α} {i : Int} {K : α → Prop} (h0 : 0 ≤ i) (h1 : i < l.length) (q : ∀ (j : Nat) (a : α), i = j → l[j]? = some a → K a) : @WO _ (L2.atI l i) ⟨K⟩ := by
  obtain ⟨j, rfl⟩ := Int.eq_ofNat_of_zero_le h0
  have hj : j < l.length := by omega
  exact WO_of (at_nat (List.getElem?_eq_getElem hj)) (q j _ rfl (List.getElem?_eq_getElem hj))
end
theorem s64_small {i : Int} (h0 : -1000000000000 ≤ i) (h1 : i ≤ 1000000000000) : s64 i = true := by
  simp only [s64, Bool.and_eq_true, decide_eq_true_eq]
  omega
theorem in62_small {i : Int} (h0 : -1000000000000 ≤ i) (h1 : i ≤ 1000000000000) : in62 i = true := by
  simp only [in62, Bool.and_eq_true, decide_eq_true_eq]
  omega
end PD
namespace PD
variable [PD.TabL]
open PySem PySem.Spec PyProof.Rows L2
inductive Ty where
  | int (lo hi : Int)
  | bl
  /-- a text of so many signs below 128 at most -/
  | str (n : Nat)
  | tup (ts : List Ty)
  /-- a tuple, a list of so many of one shape at most -/
  | tv (t : Ty) (n : Nat)
  | lst (t : Ty) (n : Nat)
  | un (t u : Ty)
  /-- a bare tuple -/
  | bt (t : Ty) (n : Nat)
  | non
mutual
def Has : Ty → D → Prop
  | .int lo hi, d => ∃ i, d = .int i ∧ lo ≤ i ∧ i ≤ hi
  | .bl, d => ∃ b, d = .bl b
  | .str n, d => ∃ x, d = .str x ∧ As n x
  | .tup ts, d => ∃ ds, d = .tup ds ∧ HasL ts ds
  | .tv t n, d => ∃ ds, d = .tup ds ∧ ds.length ≤ n ∧ ∀ e ∈ ds, Has t e
  | .lst t n, d => ∃ ds, d = .lst ds ∧ ds.length ≤ n ∧ ∀ e ∈ ds, Has t e
  | .un t u, d => Has t d ∨ Has u d
  | .bt t n, d => ∃ ds, d = .tp ds ∧ ds.length ≤ n ∧ ∀ e ∈ ds, Has t e
  | .non, d => d = .non
def HasL : List Ty → List D → Prop
  | [], ds => ds = []
  | t :: ts, ds => ∃ d r, ds = d :: r ∧ Has t d ∧ HasL ts r
end
mutual
def Ty.dep : Ty → Nat
  | .int _ _ => 0
  | .bl => 0
  | .str _ => 0
  | .tup ts => deps ts + 1
  | .tv t _ => t.dep + 1
  | .lst t _ => t.dep + 1
  | .un t u => max t.dep u.dep
  | .bt t _ => t.dep + 1
  | .non => 0
def deps : List Ty → Nat
  | [] => 0
  | t :: ts => max t.dep (deps ts)
end
mutual
theorem Has.py : ∀ {t : Ty} {d : D}, Has t d → d.isPy = true ∧ d.py.canLay0 = true ∧ d.py.depth ≤ t.dep
  | .int lo hi, d, h => by
    obtain ⟨i, rfl, _⟩ := h
    simp [D.isPy, D.py, PyData.canLay0, PyData.depth]
  | .bl, d, h => by
    obtain ⟨i, rfl⟩ := h
    simp [D.isPy, D.py, PyData.canLay0, PyData.depth]
  | .str n, d, h => by
    obtain ⟨x, rfl, hx⟩ := h
    simp [D.isPy, D.py, PyData.canLay0, PyData.depth, hx.ok]
  | .tup ts, d, h => by
    obtain ⟨ds, rfl, hd⟩ := h
    obtain ⟨h1, h2, h3⟩ := HasL.py hd
    refine ⟨by simpa [D.isPy] using h1, by simpa [D.py, PyData.canLay0] using h2, ?_⟩
    simp only [D.py, PyData.depth, Ty.dep]
    omega
  | .tv t n, d, h => by
    obtain ⟨ds, rfl, hlen, hd⟩ := h
    clear hlen
    have : arePy ds = true ∧ PyData.canLayAll0 (pys ds) = true ∧ PyData.depthAll (pys ds) ≤ t.dep := by
      induction ds with
      | nil => simp [arePy, pys, PyData.canLayAll0, PyData.depthAll]
      | cons x r ih =>
        obtain ⟨g1, g2, g3⟩ := ih fun e he => hd e (List.mem_cons_of_mem _ he)
        obtain ⟨f1, f2, f3⟩ := Has.py (hd x (List.mem_cons_self ..))
        refine ⟨by simp [arePy, f1, g1], by simp [pys, PyData.canLayAll0, f2, g2], ?_⟩
        simp only [pys, PyData.depthAll]
        omega
    refine ⟨by simpa [D.isPy] using this.1, by simpa [D.py, PyData.canLay0] using this.2.1, ?_⟩
    simp only [D.py, PyData.depth, Ty.dep]
    omega
  | .bt t n, d, h => by
    obtain ⟨ds, rfl, hlen, hd⟩ := h
    clear hlen
    have : arePy ds = true ∧ PyData.canLayAll0 (pys ds) = true ∧ PyData.depthAll (pys ds) ≤ t.dep := by
      induction ds with
      | nil => simp [arePy, pys, PyData.canLayAll0, PyData.depthAll]
      | cons x r ih =>
        obtain ⟨g1, g2, g3⟩ := ih fun e he => hd e (List.mem_cons_of_mem _ he)
        obtain ⟨f1, f2, f3⟩ := Has.py (hd x (List.mem_cons_self ..))
        refine ⟨by simp [arePy, f1, g1], by simp [pys, PyData.canLayAll0, f2, g2], ?_⟩
        simp only [pys, PyData.depthAll]
        omega
    refine ⟨by simpa [D.isPy] using this.1, by simpa [D.py, PyData.canLay0] using this.2.1, ?_⟩
    simp only [D.py, PyData.depth, Ty.dep]
    omega
  | .non, d, h => by
    have h : d = .non := h
    subst h
    simp [D.isPy, D.py, PyData.canLay0, PyData.depth]
  | .lst t n, d, h => by
    obtain ⟨ds, rfl, hlen, hd⟩ := h
    clear hlen
    have : arePy ds = true ∧ PyData.canLayAll0 (pys ds) = true ∧ PyData.depthAll (pys ds) ≤ t.dep := by
      induction ds with
      | nil => simp [arePy, pys, PyData.canLayAll0, PyData.depthAll]
      | cons x r ih =>
        obtain ⟨g1, g2, g3⟩ := ih fun e he => hd e (List.mem_cons_of_mem _ he)
        obtain ⟨f1, f2, f3⟩ := Has.py (hd x (List.mem_cons_self ..))
        refine ⟨by simp [arePy, f1, g1], by simp [pys, PyData.canLayAll0, f2, g2], ?_⟩
        simp only [pys, PyData.depthAll]
        omega
    refine ⟨by simpa [D.isPy] using this.1, by simpa [D.py, PyData.canLay0] using this.2.1, ?_⟩
    simp only [D.py, PyData.depth, Ty.dep]
    omega
  | .un t u, d, h => by
    rcases (h : Has t d ∨ Has u d) with h | h
    · obtain ⟨h1, h2, h3⟩ := Has.py h
      exact ⟨h1, h2, by simp only [Ty.dep]; omega⟩
    · obtain ⟨h1, h2, h3⟩ := Has.py h
      exact ⟨h1, h2, by simp only [Ty.dep]; omega⟩
theorem HasL.py : ∀ {ts : List Ty} {ds : List D}, HasL ts ds → arePy ds = true ∧ PyData.canLayAll0 (pys ds) = true ∧ PyData.depthAll (pys ds) ≤ deps ts
  | [], ds, h => by
    have h : ds = [] := h
    subst h
    simp [arePy, pys, PyData.canLayAll0, PyData.depthAll]
  | t :: ts, ds, h => by
    obtain ⟨d, r, rfl, h1, h2⟩ := h
    obtain ⟨f1, f2, f3⟩ := Has.py h1
    obtain ⟨g1, g2, g3⟩ := HasL.py h2
    refine ⟨by simp [arePy, f1, g1], by simp [pys, PyData.canLayAll0, f2, g2], ?_⟩
    simp only [pys, PyData.depthAll, deps]
    omega
end
/-- a list's data of one shape, as a list -/
theorem hasAll_py {t : Ty} {ds : List D} (h : ∀ e ∈ ds, Has t e) : arePy ds = true ∧ PyData.canLayAll0 (pys ds) = true ∧ PyData.depthAll (pys ds) ≤ t.dep := by
  have h1 := Has.py (t := .lst t ds.length) (d := .lst ds) ⟨ds, rfl, Nat.le_refl _, h⟩
  refine ⟨by simpa [D.isPy] using h1.1, by simpa [D.py, PyData.canLay0] using h1.2.1, ?_⟩
  have := h1.2.2
  simp only [D.py, PyData.depth, Ty.dep] at this
  omega
def al : Nat → Ty → Ty → Bool
  | n + 1, .un t u, v => al n t v && al n u v
  | n + 1, .int _ _, v => match v with
    | .int _ _ => true
    | .un u v => al n (.int 0 0) u && al n (.int 0 0) v
    | _ => false
  | n + 1, .bl, v => match v with
    | .bl => true
    | .un u v => al n .bl u && al n .bl v
    | _ => false
  | n + 1, .str m, v => match v with
    | .str _ => true
    | .un u v => al n (.str m) u && al n (.str m) v
    | _ => false
  | n + 1, .tup ts, v => match v with
    | .tup us => (ts.zip us).all fun p => al n p.1 p.2
    | .tv u _ => ts.all fun t => al n t u
    | .un u v => al n (.tup ts) u && al n (.tup ts) v
    | _ => false
  | n + 1, .tv t m, v => match v with
    | .tup us => us.all fun u => al n t u
    | .tv u _ => al n t u
    | .un u v => al n (.tv t m) u && al n (.tv t m) v
    | _ => false
  | n + 1, .lst t m, v => match v with
    | .lst u _ => al n t u
    | .un u v => al n (.lst t m) u && al n (.lst t m) v
    | _ => false
  | _ + 1, .bt _ _, _ => false
  | _ + 1, .non, _ => false
  | 0, _, _ => false
def Ty.al (t u : Ty) : Bool := PD.al 20 t u
theorem alikeAll_of : ∀ {ds es : List D}, (∀ (i : Nat) (d e : D), ds[i]? = some d → es[i]? = some e → PySem.W.alike d.py e.py = true) → PySem.W.alikeAll (pys ds) (pys es) = true
  | [], es, _ => by simp [pys, PySem.W.alikeAll]
  | d :: ds, [], _ => by simp [pys, PySem.W.alikeAll]
  | d :: ds, e :: es, h => by
    simp only [pys, PySem.W.alikeAll, Bool.and_eq_true]
    exact ⟨h 0 d e rfl rfl, alikeAll_of fun i a b ha hb => h (i + 1) a b ha hb⟩
theorem HasL.at : ∀ {ts : List Ty} {ds : List D} {i : Nat} {d : D}, HasL ts ds → ds[i]? = some d → ∃ t, ts[i]? = some t ∧ Has t d
  | [], ds, i, d, h, e => by
    have h : ds = [] := h
    subst h
    simp at e
  | t :: ts, ds, i, d, h, e => by
    obtain ⟨x, r, rfl, h1, h2⟩ := h
    cases i with
    | zero =>
      have : x = d := by simpa using e
      subst this
      exact ⟨t, rfl, h1⟩
    | succ i => exact HasL.at (i := i) h2 (by simpa using e)
theorem zip_at {ts us : List Ty} {p : Ty × Ty → Bool} (h : (ts.zip us).all p = true) {i : Nat} {t u : Ty} (h1 : ts[i]? = some t) (h2 : us[i]? = some u) : p (t, u) = true := by
  refine List.all_eq_true.mp h (t, u) ?_
  refine List.mem_of_getElem? (i := i) ?_
  rw [List.getElem?_zip_eq_some]
  exact ⟨h1, h2⟩
theorem Has.int_any {lo hi : Int} {d : D} (h : Has (.int lo hi) d) : ∃ i, d = .int i := by
  obtain ⟨i, e, _⟩ := h
  exact ⟨i, e⟩
theorem al_int : ∀ (n : Nat) {u : Ty} {i : Int} {e : D}, al n (.int 0 0) u = true → Has u e → PySem.W.alike (D.int i).py e.py = true
  | 0, u, i, e, h, _ => by cases h
  | n + 1, u, i, e, h, h2 => by
    cases u with
    | int lo hi =>
      obtain ⟨j, rfl, _⟩ := h2
      simp only [D.py, PySem.W.alike]
    | un u v =>
      have h : (al n (.int 0 0) u && al n (.int 0 0) v) = true := h
      rw [Bool.and_eq_true] at h
      rcases (h2 : Has u e ∨ Has v e) with h2 | h2
      · exact al_int n h.1 h2
      · exact al_int n h.2 h2
    | _ => cases h
theorem al_ok : ∀ (n : Nat) {t u : Ty} {d e : D}, al n t u = true → Has t d → Has u e → PySem.W.alike d.py e.py = true
  | 0, t, u, _, _, h, _, _ => by cases t <;> cases h
  | n + 1, t, u, d, e, h, h1, h2 => by
    cases t with
    | un t t' =>
      have h : (al n t u && al n t' u) = true := h
      rw [Bool.and_eq_true] at h
      rcases (h1 : Has t d ∨ Has t' d) with h1 | h1
      · exact al_ok n h.1 h1 h2
      · exact al_ok n h.2 h1 h2
    | int lo hi =>
      obtain ⟨i, rfl⟩ := h1.int_any
      exact al_int (n + 1) (u := u) (by cases u <;> exact h) h2
    | bl =>
      cases u with
      | bl =>
        obtain ⟨i, rfl⟩ := h1
        obtain ⟨j, rfl⟩ := h2
        simp only [D.py, PySem.W.alike]
      | un u v =>
        have h : (al n .bl u && al n .bl v) = true := h
        rw [Bool.and_eq_true] at h
        rcases (h2 : Has u e ∨ Has v e) with h2 | h2
        · exact al_ok n h.1 h1 h2
        · exact al_ok n h.2 h1 h2
      | _ => cases h
    | str m =>
      cases u with
      | str m' =>
        obtain ⟨i, rfl, _⟩ := h1
        obtain ⟨j, rfl, _⟩ := h2
        simp only [D.py, PySem.W.alike]
      | un u v =>
        have h : (al n (.str m) u && al n (.str m) v) = true := h
        rw [Bool.and_eq_true] at h
        rcases (h2 : Has u e ∨ Has v e) with h2 | h2
        · exact al_ok n h.1 h1 h2
        · exact al_ok n h.2 h1 h2
      | _ => cases h
    | tup ts =>
      cases u with
      | tup us =>
        obtain ⟨ds, rfl, g1⟩ := h1
        obtain ⟨es, rfl, g2⟩ := h2
        simp only [D.py, PySem.W.alike]
        refine alikeAll_of fun i a b ha hb => ?_
        obtain ⟨t', k1, k2⟩ := g1.at ha
        obtain ⟨u', k3, k4⟩ := g2.at hb
        exact al_ok n (zip_at (p := fun p => al n p.1 p.2) h k1 k3) k2 k4
      | tv u m =>
        obtain ⟨ds, rfl, g1⟩ := h1
        obtain ⟨es, rfl, _, g2⟩ := h2
        simp only [D.py, PySem.W.alike]
        refine alikeAll_of fun i a b ha hb => ?_
        obtain ⟨t', k1, k2⟩ := g1.at ha
        have h : (ts.all fun t => al n t u) = true := h
        exact al_ok n (List.all_eq_true.mp h t' (List.mem_of_getElem? k1)) k2 (g2 b (List.mem_of_getElem? hb))
      | un u v =>
        have h : (al n (.tup ts) u && al n (.tup ts) v) = true := h
        rw [Bool.and_eq_true] at h
        rcases (h2 : Has u e ∨ Has v e) with h2 | h2
        · exact al_ok n h.1 h1 h2
        · exact al_ok n h.2 h1 h2
      | _ => cases h
    | tv t m =>
      cases u with
      | tup us =>
        obtain ⟨ds, rfl, _, g1⟩ := h1
        obtain ⟨es, rfl, g2⟩ := h2
        simp only [D.py, PySem.W.alike]
        refine alikeAll_of fun i a b ha hb => ?_
        obtain ⟨u', k3, k4⟩ := g2.at hb
        have h : (us.all fun u => al n t u) = true := h
        exact al_ok n (List.all_eq_true.mp h u' (List.mem_of_getElem? k3)) (g1 a (List.mem_of_getElem? ha)) k4
      | tv u m' =>
        obtain ⟨ds, rfl, _, g1⟩ := h1
        obtain ⟨es, rfl, _, g2⟩ := h2
        simp only [D.py, PySem.W.alike]
        exact alikeAll_of fun i a b ha hb => al_ok n (t := t) (u := u) h (g1 a (List.mem_of_getElem? ha)) (g2 b (List.mem_of_getElem? hb))
      | un u v =>
        have h : (al n (.tv t m) u && al n (.tv t m) v) = true := h
        rw [Bool.and_eq_true] at h
        rcases (h2 : Has u e ∨ Has v e) with h2 | h2
        · exact al_ok n h.1 h1 h2
        · exact al_ok n h.2 h1 h2
      | _ => cases h
    | lst t m =>
      cases u with
      | lst u m' =>
        obtain ⟨ds, rfl, _, g1⟩ := h1
        obtain ⟨es, rfl, _, g2⟩ := h2
        simp only [D.py, PySem.W.alike]
        exact alikeAll_of fun i a b ha hb => al_ok n (t := t) (u := u) h (g1 a (List.mem_of_getElem? ha)) (g2 b (List.mem_of_getElem? hb))
      | un u v =>
        have h : (al n (.lst t m) u && al n (.lst t m) v) = true := h
        rw [Bool.and_eq_true] at h
        rcases (h2 : Has u e ∨ Has v e) with h2 | h2
        · exact al_ok n h.1 h1 h2
        · exact al_ok n h.2 h1 h2
      | _ => cases h
    | bt t m => cases u <;> cases h
    | non => cases u <;> cases h
/-- a tuple of one thing at least -/
def Ty.ne : Ty → Bool
  | .tup (_ :: _) => true
  | .un t u => t.ne && u.ne
  | _ => false
def Ty.noT : Ty → Bool
  | .tup _ => false
  | .tv _ _ => false
  | .bt _ _ => false
  | .non => false
  | .un t u => t.noT && u.noT
  | _ => true
theorem Has.ne : ∀ {t : Ty} {d : D}, t.ne = true → Has t d → ∃ x r, d = .tup (x :: r)
  | .tup (t :: ts), d, _, h => by
    obtain ⟨ds, rfl, x, r, rfl, _⟩ := h
    exact ⟨x, r, rfl⟩
  | .un t u, d, hn, h => by
    rw [Ty.ne, Bool.and_eq_true] at hn
    rcases (h : Has t d ∨ Has u d) with h | h
    · exact Has.ne hn.1 h
    · exact Has.ne hn.2 h
theorem Has.noT : ∀ {t : Ty} {d : D}, t.noT = true → Has t d → (match d with | .tup _ => false | .tp _ => false | .non => false | _ => true) = true
  | .int _ _, d, _, h => by
    obtain ⟨_, rfl, _⟩ := h
    rfl
  | .bl, d, _, h => by
    obtain ⟨_, rfl⟩ := h
    rfl
  | .str _, d, _, h => by
    obtain ⟨_, rfl, _⟩ := h
    rfl
  | .lst _ _, d, _, h => by
    obtain ⟨_, rfl, _⟩ := h
    rfl
  | .un t u, d, hn, h => by
    rw [Ty.noT, Bool.and_eq_true] at hn
    rcases (h : Has t d ∨ Has u d) with h | h
    · exact Has.noT hn.1 h
    · exact Has.noT hn.2 h
theorem sort_ok {t : Ty} {ds : List D} (h : ∀ d ∈ ds, Has t d) (ha : t.al t = true) (hd : t.dep ≤ 50) (hk : (t.ne || t.noT) = true) (hl : ds.length ≤ 1000000) : sortedD [.lst ds] = some (.fr (.lst (sortL ds))) := by
  obtain ⟨h1, h2, h3⟩ := hasAll_py h
  have e : sortOk ds = true := by
    unfold sortOk
    rw [Bool.and_eq_true, Bool.and_eq_true, Bool.and_eq_true, Bool.and_eq_true]
    refine ⟨⟨⟨⟨h1, ?_⟩, decide_eq_true (by omega)⟩, small_lit (by omega)⟩, ?_⟩
    · rw [List.all_eq_true]
      intro x hx
      rw [List.all_eq_true]
      intro y hy
      rw [pys_map] at hx hy
      obtain ⟨x', hx', rfl⟩ := List.mem_map.mp hx
      obtain ⟨y', hy', rfl⟩ := List.mem_map.mp hy
      exact al_ok 20 ha (h x' hx') (h y' hy')
    · rcases Bool.or_eq_true_iff.mp hk with hk | hk
      · refine Bool.or_eq_true_iff.mpr (.inl (List.all_eq_true.mpr fun d hd => ?_))
        obtain ⟨x, r, rfl⟩ := (h d hd).ne hk
        rfl
      · refine Bool.or_eq_true_iff.mpr (.inr (List.all_eq_true.mpr fun d hd => ?_))
        exact (h d hd).noT hk
  rw [sortedD, if_pos e]
theorem sortL_perm (ds : List D) : (sortL ds).Perm ds := List.mergeSort_perm _ _
theorem sortL_mem {ds : List D} {d : D} : d ∈ sortL ds ↔ d ∈ ds := (sortL_perm ds).mem_iff
theorem has_dep {t : Ty} {d : D} (h : Has t d) (n : Nat) (hn : t.dep ≤ n) : depB n d = true := decide_eq_true (Nat.le_trans h.py.2.2 hn)
theorem eqD_py {d e : D} (h1 : d.isPy = true) (h2 : e.isPy = true) (h3 : depB 64 d = true) : eqD [d, e] = some (.im (.bl (eqB d e))) := by
  cases d <;> cases e <;> first | (simp [D.isPy] at h1; done) | (simp [D.isPy] at h2; done) | simp only [eqD, h1, h2, h3, Bool.true_or, Bool.and_self, if_true]
theorem neD_py {d e : D} (h1 : d.isPy = true) (h2 : e.isPy = true) (h3 : depB 64 d = true) : neD [d, e] = some (.im (.bl (!eqB d e))) := by
  cases d <;> cases e <;> first | (simp [D.isPy] at h1; done) | (simp [D.isPy] at h2; done) | simp only [neD, h1, h2, h3, Bool.true_or, Bool.and_self, if_true]
theorem eqB_int (i j : Int) : eqB (.int i) (.int j) = decide (i = j) := by
  unfold eqB
  simp only [D.py, PyData.eqv]
  by_cases h : i = j <;> simp [h]
theorem eqB_str (i j : Str) : eqB (.str i) (.str j) = decide (i = j) := by
  unfold eqB
  simp only [D.py, PyData.eqv]
  by_cases h : i = j <;> simp [h]
theorem dep0 {d : D} (h : d.py.depth = 0) : depB 64 d = true := decide_eq_true (by omega)
theorem eqD_int (i j : Int) : eqD [.int i, .int j] = some (.im (.bl (decide (i = j)))) := by
  rw [eqD_py rfl rfl (dep0 rfl), eqB_int]
theorem eqD_str (i j : Str) : eqD [.str i, .str j] = some (.im (.bl (decide (i = j)))) := by
  rw [eqD_py rfl rfl (dep0 rfl), eqB_str]
theorem neD_str (i j : Str) : neD [.str i, .str j] = some (.im (.bl (!decide (i = j)))) := by
  rw [neD_py rfl rfl (dep0 rfl), eqB_str]
theorem eqB_nil (ds : List D) : eqB (.lst ds) (.lst []) = ds.isEmpty := by
  unfold eqB
  cases ds <;> simp [D.py, pys, PyData.eqv, PyData.eqvAll]
theorem depB_lst {t : Ty} {ds : List D} (h : ∀ d ∈ ds, Has t d) (hd : t.dep ≤ 50) : depB 64 (.lst ds) = true := decide_eq_true (by
  have := (hasAll_py h).2.2
  simp only [D.py, PyData.depth]
  omega)
theorem neD_nil {t : Ty} {ds : List D} (h : ∀ d ∈ ds, Has t d) (hd : t.dep ≤ 50) : neD [.lst ds, .lst []] = some (.im (.bl (!ds.isEmpty))) := by
  rw [neD_py (by simpa [D.isPy] using (hasAll_py h).1) rfl (depB_lst h hd), eqB_nil]
theorem all_nil {P : D → Prop} : ∀ d ∈ ([] : List D), P d := fun _ h => by simp at h
theorem all_cons {P : D → Prop} {d : D} {ds : List D} (h : P d) (h' : ∀ e ∈ ds, P e) : ∀ e ∈ d :: ds, P e := fun e he => by
  rcases List.mem_cons.mp he with rfl | he
  · exact h
  · exact h' e he
/-- an index within a list of things that P holds of -/
theorem WO_atP {P : D → Prop} {l : List D} {i : Int} {K : D → Prop} (hp : ∀ d ∈ l, P d) (h0 : 0 ≤ i) (h1 : i < l.length) (q : ∀ a, P a → K a) : @WO _ (L2.atI l i) ⟨K⟩ :=
  WO_at h0 h1 fun j a _ ha => q a (hp a (List.mem_of_getElem? ha))
theorem HasL.nil : HasL [] [] := rfl
theorem HasL.cons {t : Ty} {ts : List Ty} {d : D} {ds : List D} (h : Has t d) (h' : HasL ts ds) : HasL (t :: ts) (d :: ds) := ⟨d, ds, rfl, h, h'⟩
theorem Has.mkT {ts : List Ty} {ds : List D} (h : HasL ts ds) : Has (.tup ts) (.tup ds) := ⟨ds, rfl, h⟩
theorem Has.mkI {lo hi i : Int} (h : lo ≤ i) (h' : i ≤ hi) : Has (.int lo hi) (.int i) := ⟨i, rfl, h, h'⟩
theorem Has.mkS {n : Nat} {x : Str} (h : As n x) : Has (.str n) (.str x) := ⟨x, rfl, h⟩
theorem WO_ifd {α : Type} {p : Prop} [Decidable p] {a : α} {K : α → Prop} (h : p) (q : K a) : @WO _ (if decide p = true then some a else none) ⟨K⟩ := WO_if (decide_eq_true h) q
theorem As.len {n : Nat} {x : Str} (h : As n x) : x.length ≤ n := h.1
theorem enum_get {ds : List D} {i : Nat} {d : D} (h : (enumD 0 ds)[i]? = some d) : ∃ x, ds[i]? = some x ∧ d = .tup [.int (i : Int), x] := by
  have key : ∀ (ds : List D) (k i : Nat) (d : D), (enumD k ds)[i]? = some d → ∃ x, ds[i]? = some x ∧ d = .tup [.int ((k + i : Nat) : Int), x] := by
    intro ds
    induction ds with
    | nil => intro k i d h; simp [enumD] at h
    | cons x r ih =>
      intro k i d h
      cases i with
      | zero =>
        have : D.tup [.int (k : Nat), x] = d := by simpa [enumD] using h
        subst this
        exact ⟨x, rfl, rfl⟩
      | succ i =>
        obtain ⟨y, h1, h2⟩ := ih (k + 1) i d (by simpa [enumD] using h)
        exact ⟨y, by simpa using h1, by rw [h2, show k + 1 + i = k + (i + 1) by omega]⟩
  obtain ⟨x, h1, h2⟩ := key ds 0 i d h
  rw [Nat.zero_add] at h2
  exact ⟨x, h1, h2⟩
theorem enum_len : ∀ (ds : List D) (k : Nat), (enumD k ds).length = ds.length
  | [], k => rfl
  | x :: ds, k => by rw [enumD, List.length_cons, List.length_cons, enum_len ds]
def puts : Env → List (Nat × Sl) → Env
  | e, [] => e
  | e, (i, s) :: r => puts (e.set i s) r
theorem puts_nil {e : Env} : puts e [] = e := rfl
theorem puts_cons {e : Env} {i : Nat} {s : Sl} {r : List (Nat × Sl)} : puts e ((i, s) :: r) = puts (e.set i s) r := rfl
section
variable {e : Env}
theorem W_compE (P : Env → Nat → List D → Env → Prop) {vs : List Nat} {g : Vl → M Unit} {tt : M Bool} {te : M Vl} {Q : List D → Env → Prop} {ds : List D} (h0 : P e 0 [] e)
    (hs : ∀ i d ys e', ds[i]? = some d → P e i ys e' → @W _ (g (.im d)) e' ⟨fun _ e1 => @W _ tt e1 ⟨fun b e2 => @WB b ⟨@W _ te e2 ⟨fun r e3 => @W _ (frz r.hold) e3 ⟨fun y e4 => @WO _ (some (wipeE e4 vs)) ⟨fun e5 => P e (i + 1) (ys ++ [y]) e5⟩⟩⟩, @WO _ (some (wipeE e2 vs)) ⟨fun e5 => P e (i + 1) ys e5⟩⟩⟩⟩)
    (hq : ∀ ys e', P e ds.length ys e' → Q ys e') : @W _ (compL vs g tt te ds) e ⟨Q⟩ := W_comp (P e) h0 hs hq
theorem W_forE (P : Env → Nat → Env → Prop) {g : Vl → M Unit} {b : SM} {Q : Fl → Env → Prop} {ds : List D} (h0 : P e 0 e)
    (hs : ∀ i d e', ds[i]? = some d → P e i e' → @W _ (g (.im d)) e' ⟨fun _ e1 => @W _ b e1 ⟨goesOn (P e (i + 1)) Q⟩⟩)
    (hq : ∀ e', P e ds.length e' → Q .nx e') : @W _ (forL g b ds) e ⟨Q⟩ := W_for (P e) h0 hs hq
end
theorem cut_nat {α : Type} (ds : List α) (a b : Nat) : cutD ds (some (a : Int)) (some (b : Int)) = (ds.drop a).take (b - a) := by
  unfold cutD
  rw [HT.sIx_nat, HT.sIx_nat]
  by_cases h : a ≤ ds.length
  · rw [show min a ds.length = a by omega]
    by_cases hb : b ≤ ds.length
    · rw [show min b ds.length = b by omega]
    · rw [show min b ds.length = ds.length by omega, List.take_of_length_le (by simp), List.take_of_length_le (by simp; omega)]
  · rw [show min a ds.length = ds.length by omega, List.drop_length, List.drop_of_length_le (by omega)]
    simp
theorem cut_take {α : Type} (ds : List α) (b : Nat) : cutD ds none (some (b : Int)) = ds.take b := by
  have := cut_nat ds 0 b
  unfold cutD at this ⊢
  rw [HT.sIx_none]
  rw [show HT.sIx ds.length 0 (some ((0 : Nat) : Int)) = 0 by rw [HT.sIx_nat]; omega] at this
  simpa using this
theorem cut_drop {α : Type} (ds : List α) (a : Nat) : cutD ds (some (a : Int)) none = ds.drop a := by
  unfold cutD
  rw [HT.sIx_nat, HT.sIx_none]
  by_cases h : a ≤ ds.length
  · rw [show min a ds.length = a by omega, List.take_of_length_le (by simp)]
  · rw [show min a ds.length = ds.length by omega, List.drop_length, List.drop_of_length_le (by omega)]
    simp
def cutTo (R : Env → Prop) (Q : Fl → Env → Prop) : Fl → Env → Prop
  | .nx, e => R e
  | .bk, e => Q .bk e
  | .ct, e => Q .ct e
  | .rt v, e => Q (.rt v) e
theorem cut_nx {R : Env → Prop} {Q : Fl → Env → Prop} {e : Env} : cutTo R Q .nx e = R e := rfl
theorem cut_bk {R : Env → Prop} {Q : Fl → Env → Prop} {e : Env} : cutTo R Q .bk e = Q .bk e := rfl
theorem cut_ct {R : Env → Prop} {Q : Fl → Env → Prop} {e : Env} : cutTo R Q .ct e = Q .ct e := rfl
theorem cut_rt {R : Env → Prop} {Q : Fl → Env → Prop} {e : Env} {v : Vl} : cutTo R Q (.rt v) e = Q (.rt v) e := rfl
def seqs : List SM → SM → SM
  | [], t => t
  | m :: ms, t => sSeq m (seqs ms t)
theorem seqs_cut {t : SM} : ∀ {ms : List SM} {e e' : Env} {fl : Fl}, seqs ms sNil e = some (fl, e') → seqs ms t e = match fl with
    | .nx => t e'
    | fl => some (fl, e')
  | [], e, e', fl, h => by
    cases h
    rfl
  | m :: ms, e, e', fl, h => by
    have h : (match m e with | some (.nx, e') => seqs ms sNil e' | some (fl, e') => some (fl, e') | none => none) = some (fl, e') := h
    show (match m e with | some (.nx, e') => seqs ms t e' | some (fl, e') => some (fl, e') | none => none) = _
    cases hm : m e with
    | none =>
      rw [hm] at h
      cases h
    | some p =>
      obtain ⟨fl1, e1⟩ := p
      rw [hm] at h
      cases fl1 with
      | nx => exact seqs_cut h
      | bk => cases h; rfl
      | ct => cases h; rfl
      | rt v => cases h; rfl
theorem W_cutL {ms : List SM} {t : SM} {e : Env} {Q : Fl → Env → Prop} (R : Env → Prop) (h : @W _ (seqs ms sNil) e ⟨cutTo R Q⟩) (h2 : ∀ e', R e' → @W _ t e' ⟨Q⟩) : @W _ (seqs ms t) e ⟨Q⟩ := by
  obtain ⟨fl, e', h1, h3⟩ := h
  have key := seqs_cut (t := t) h1
  cases fl with
  | nx =>
    obtain ⟨fl, e2, h4, h5⟩ := h2 e' h3
    exact ⟨fl, e2, key.trans h4, h5⟩
  | bk => exact ⟨_, _, key, h3⟩
  | ct => exact ⟨_, _, key, h3⟩
  | rt v => exact ⟨_, _, key, h3⟩
theorem W_cut1 (R : Env → Env → Prop) {a t : SM} {e : Env} {Q : Fl → Env → Prop} (h : @W _ (sSeq a sNil) e ⟨cutTo (R e) Q⟩) (h2 : ∀ e', R e e' → @W _ t e' ⟨Q⟩) : @W _ (sSeq a t) e ⟨Q⟩ := W_cutL (ms := [a]) (R e) h h2
theorem W_cut2 (R : Env → Env → Prop) {a b t : SM} {e : Env} {Q : Fl → Env → Prop} (h : @W _ (sSeq a (sSeq b sNil)) e ⟨cutTo (R e) Q⟩) (h2 : ∀ e', R e e' → @W _ t e' ⟨Q⟩) : @W _ (sSeq a (sSeq b t)) e ⟨Q⟩ := W_cutL (ms := [a, b]) (R e) h h2
theorem W_cut3 (R : Env → Env → Prop) {a b c t : SM} {e : Env} {Q : Fl → Env → Prop} (h : @W _ (sSeq a (sSeq b (sSeq c sNil))) e ⟨cutTo (R e) Q⟩) (h2 : ∀ e', R e e' → @W _ t e' ⟨Q⟩) : @W _ (sSeq a (sSeq b (sSeq c t))) e ⟨Q⟩ := W_cutL (ms := [a, b, c]) (R e) h h2
theorem lt_at {α : Type} {l : List α} {i : Nat} {a : α} (h : l[i]? = some a) : i < l.length := (List.getElem?_eq_some_iff.mp h).1
end PD
namespace PD
variable [PD.TabL]
open PySem PySem.Spec PyProof.Rows L2
section
variable {K : PySem.W.Frag} {B : Hp} {κ : Type} [DecidableEq κ]
end
end PD
namespace PD
variable [PD.TabL]
open PySem PySem.Spec PyProof.Rows L2
mutual
def Ty.wt : Ty → Nat
  | .int _ _ => 2000
  | .bl => 5
  | .str n => 10 * n + 2
  | .tup ts => tyWts ts + 4
  | .tv t n => n * (t.wt + 2) + 4
  | .lst t n => n * (t.wt + 2) + 4
  | .un t u => max t.wt u.wt
  | .bt t n => n * (t.wt + 2) + 4
  | .non => 4
def tyWts : List Ty → Nat
  | [] => 0
  | t :: ts => t.wt + 2 + tyWts ts
end
mutual
def Ty.shw : Ty → Bool
  | .int lo hi => decide (-1000000000000000000000000 ≤ lo) && decide (hi ≤ 1000000000000000000000000)
  | .bl => true
  | .str _ => true
  | .tup ts => tyShws ts
  | .tv t _ => t.shw
  | .lst t _ => t.shw
  | .un t u => t.shw && u.shw
  | .bt t _ => t.shw
  | .non => true
def tyShws : List Ty → Bool
  | [] => true
  | t :: ts => t.shw && tyShws ts
end
theorem intB_small {i : Int} (h0 : -1000000000000000000000000 ≤ i) (h1 : i ≤ 1000000000000000000000000) : intB i = true := by
  refine decide_eq_true ?_
  by_cases h : i.natAbs = 0
  · rw [h]
    decide
  · rw [Nat.log2_lt h]
    have : i.natAbs ≤ 1000000000000000000000000 := by omega
    have h2 : (1000000000000000000000000 : Nat) < 2 ^ 1920 := by decide +kernel
    omega
theorem wts_of {t : Ty} {n : Nat} : ∀ {ds : List D}, (∀ e ∈ ds, e.shw = true ∧ e.wt ≤ n) → shws ds = true ∧ wts ds ≤ ds.length * (n + 2)
  | [], _ => ⟨rfl, by simp [wts]⟩
  | d :: ds, h => by
    obtain ⟨h1, h2⟩ := wts_of (t := t) (ds := ds) fun e he => h e (List.mem_cons_of_mem _ he)
    obtain ⟨h3, h4⟩ := h d (List.mem_cons_self ..)
    refine ⟨by simp [shws, h1, h3], ?_⟩
    simp only [wts, List.length_cons, Nat.add_mul, Nat.one_mul]
    omega
mutual
theorem Has.shows : ∀ {t : Ty} {d : D}, t.shw = true → Has t d → d.shw = true ∧ d.wt ≤ t.wt
  | .int lo hi, d, hs, h => by
    obtain ⟨i, rfl, h1, h2⟩ := h
    rw [Ty.shw, Bool.and_eq_true, decide_eq_true_eq, decide_eq_true_eq] at hs
    exact ⟨intB_small (by omega) (by omega), by simp [D.wt, Ty.wt]⟩
  | .bl, d, hs, h => by
    obtain ⟨i, rfl⟩ := h
    simp [D.shw, D.wt, Ty.wt]
  | .str n, d, hs, h => by
    obtain ⟨x, rfl, hx⟩ := h
    have := hx.1
    refine ⟨rfl, ?_⟩
    simp only [D.wt, Ty.wt]
    omega
  | .tup ts, d, hs, h => by
    obtain ⟨ds, rfl, h⟩ := h
    obtain ⟨h1, h2⟩ := HasL.shows (by simpa [Ty.shw] using hs) h
    refine ⟨by simpa [D.shw] using h1, ?_⟩
    simp only [D.wt, Ty.wt]
    omega
  | .tv t n, d, hs, h => by
    obtain ⟨ds, rfl, hl, h⟩ := h
    obtain ⟨h1, h2⟩ := wts_of (t := t) (n := t.wt) fun e he => Has.shows (by simpa [Ty.shw] using hs) (h e he)
    refine ⟨by simpa [D.shw] using h1, ?_⟩
    simp only [D.wt, Ty.wt]
    have := Nat.mul_le_mul_right (t.wt + 2) hl
    omega
  | .bt t n, d, hs, h => by
    obtain ⟨ds, rfl, hl, h⟩ := h
    obtain ⟨h1, h2⟩ := wts_of (t := t) (n := t.wt) fun e he => Has.shows (by simpa [Ty.shw] using hs) (h e he)
    refine ⟨by simpa [D.shw] using h1, ?_⟩
    simp only [D.wt, Ty.wt]
    have := Nat.mul_le_mul_right (t.wt + 2) hl
    omega
  | .non, d, hs, h => by
    have h : d = .non := h
    subst h
    simp [D.shw, D.wt, Ty.wt]
  | .lst t n, d, hs, h => by
    obtain ⟨ds, rfl, hl, h⟩ := h
    obtain ⟨h1, h2⟩ := wts_of (t := t) (n := t.wt) fun e he => Has.shows (by simpa [Ty.shw] using hs) (h e he)
    refine ⟨by simpa [D.shw] using h1, ?_⟩
    simp only [D.wt, Ty.wt]
    have := Nat.mul_le_mul_right (t.wt + 2) hl
    omega
  | .un t u, d, hs, h => by
    rw [Ty.shw, Bool.and_eq_true] at hs
    rcases (h : Has t d ∨ Has u d) with h | h
    · obtain ⟨h1, h2⟩ := Has.shows hs.1 h
      exact ⟨h1, by simp only [Ty.wt]; omega⟩
    · obtain ⟨h1, h2⟩ := Has.shows hs.2 h
      exact ⟨h1, by simp only [Ty.wt]; omega⟩
theorem HasL.shows : ∀ {ts : List Ty} {ds : List D}, tyShws ts = true → HasL ts ds → shws ds = true ∧ wts ds ≤ tyWts ts
  | [], ds, _, h => by
    have h : ds = [] := h
    subst h
    simp [shws, wts, tyWts]
  | t :: ts, ds, hs, h => by
    obtain ⟨d, r, rfl, h1, h2⟩ := h
    rw [tyShws, Bool.and_eq_true] at hs
    obtain ⟨f1, f2⟩ := Has.shows hs.1 h1
    obtain ⟨g1, g2⟩ := HasL.shows hs.2 h2
    refine ⟨by simp [shws, f1, g1], ?_⟩
    simp only [wts, tyWts]
    omega
end
theorem repr_ok {t : Ty} {d : D} (h : Has t d) (hs : t.shw = true) (hw : t.wt ≤ 16777216) (hd : t.dep ≤ 60) : reprD [d] = some (.im (.txt d.py.shown)) := by
  obtain ⟨h1, h2⟩ := h.shows hs
  have e : (d.shw && small d.wt && depB 60 d) = true := by
    rw [h1, small_lit (by omega), has_dep h 60 hd]
    rfl
  rw [reprD, if_pos e]
theorem neD_txt (x y : Str) : neD [.txt x, .txt y] = some (.im (.bl (!decide (x = y)))) := rfl
theorem calm_em : calmS (some .em) = true := rfl
theorem calm_im {d : D} : calmS (some (.im d)) = true := rfl
theorem calm_none : calmS none = true := rfl
end PD
namespace PDZ
variable [PD.TabL]
open PySem PySem.Spec
section
variable {prog : Program} {w : World} {A : Around} {E : Value → Shared → Prop} {s : Shared} {zz ti tq j1 j2 T : Addr} {f1 f2 : List Addr} {n1 n2 i : Nat} {P1 P2 : Nat → Value → Prop} {St1 St2 : Nat → Heap → Prop} {fl : Bool} {oT : Obj}
end
end PDZ
namespace PDZ
variable [PD.TabL]
open PySem PySem.Spec
section
variable {prog : Program} {w : World} {zz ti tq j1 j2 : Addr} {f1 f2 : List Addr} {n1 n2 : Nat} {P1 P2 : Nat → Value → Prop} {St1 St2 : Nat → Heap → Prop}
/-- a zip just made -/
def ZNew (zz ti tq j1 j2 : Addr) (St1 St2 : Nat → Heap → Prop) (h : Heap) : Prop :=
  IsZip h zz ti tq .none ∧ IsTupOf2 h ti (.ref j1) (.ref j2) ∧ (∃ a b, IsTupOf2 h tq a b) ∧ St1 0 h ∧ St2 0 h
/-- what stands in a list of pairs: new tuples, one behind the other -/
def Prs (P1 P2 : Nat → Value → Prop) (bad : List Addr) (acc : Array Value) (i : Nat) (h : Heap) : Prop :=
  acc.size = i ∧ (∀ j v, acc[j]? = some v → ∃ T x y, v = .ref T ∧ P1 j x ∧ P2 j y ∧ IsTupOf2 h T x y ∧ ∀ b ∈ bad, b < T) ∧ ∀ (i j : Nat) (T U : Addr), i < j → acc[i]? = some (Value.ref T) → acc[j]? = some (Value.ref U) → T < U
theorem Prs.at {bad : List Addr} {acc : Array Value} {i : Nat} {h h' : Heap} (p : Prs P1 P2 bad acc i h) (hk : ∀ b o, b ∉ bad → h.get? b = some o → h'.get? b = some o) : Prs P1 P2 bad acc i h' :=
  ⟨p.1, fun j v e => let ⟨T, x, y, e1, e2, e3, e4, e5⟩ := p.2.1 j v e; ⟨T, x, y, e1, e2, e3, hk _ _ (fun m => Nat.lt_irrefl _ (e5 _ m)) e4, e5⟩, p.2.2⟩
theorem Prs.push {bad : List Addr} {acc : Array Value} {i : Nat} {h : Heap} {T : Addr} {x y : Value} (p : Prs P1 P2 bad acc i h) (h1 : P1 i x) (h2 : P2 i y) (h3 : IsTupOf2 h T x y) (h4 : ∀ b ∈ bad, b < T) (h5 : ∀ (j : Nat) (U : Addr), acc[j]? = some (Value.ref U) → U < T) : Prs P1 P2 bad (acc.push (.ref T)) (i + 1) h := by
  refine ⟨by rw [Array.size_push, p.1], fun j v e => ?_, fun i' j U W hij e1 e2 => ?_⟩
  · rw [Array.getElem?_push] at e
    split at e
    · rename_i q
      rw [p.1] at q
      cases e
      subst q
      exact ⟨T, x, y, rfl, h1, h2, h3, h4⟩
    · exact p.2.1 j v e
  · rw [Array.getElem?_push] at e1 e2
    split at e2
    · rename_i q
      cases e2
      rw [if_neg (by omega)] at e1
      exact h5 _ _ e1
    · rename_i q
      have := (Array.getElem?_eq_some_iff.mp e2).1
      rw [if_neg (by omega)] at e1
      exact p.2.2 i' j U W hij e1 e2
variable {A : Around} {R : Result → Shared → Prop}
theorem ZNew.keep {h h' : Heap} (D1 : Draws prog w A j1 f1 n1 P1 St1) (D2 : Draws prog w A j2 f2 n2 P2 St2) (ok : ZNew zz ti tq j1 j2 St1 St2 h) (hk : ∀ b o, b ∈ zz :: ti :: tq :: (f1 ++ f2) → h.get? b = some o → h'.get? b = some o) : ZNew zz ti tq j1 j2 St1 St2 h' := by
  obtain ⟨kz, kI, ⟨a, b, kO⟩, u1, u2⟩ := ok
  exact ⟨hk _ _ (by simp) kz, hk _ _ (by simp) kI, ⟨a, b, hk _ _ (by simp) kO⟩, D1.frame _ _ _ u1 fun b hb o e => hk b o (by simp [hb]) e, D2.frame _ _ _ u2 fun b hb o e => hk b o (by simp [hb]) e⟩
end
end PDZ
namespace PD
variable [PD.TabL]
open PySem PySem.Spec PyProof.Rows L2
def dOf : V → PyData
  | .bl b => .bool b
  | .int i => .int i
  | .str x => .str x
  | _ => .none
theorem flat_reads {h : Heap} {x : V} {v : Value} (f : flatV x = true) (r : RelV x v) : Reads h v (dOf x) [] := by
  cases x with
  | non =>
    have r : v = Value.none := r
    subst r
    exact .none
  | bl b =>
    have r : v = Value.bool b := r
    subst r
    exact .bool b
  | int i =>
    obtain ⟨t, rfl⟩ := (show ∃ t, v = Value.int i t from r)
    exact .int i t
  | str y =>
    obtain ⟨t, rfl⟩ := (show ∃ t, v = Value.str y t from r)
    exact .str y t
  | _ => cases f
section
variable {X : Cx} {e : Expr} {te : TE} {p apos cpos pos : Pos}
end
def kD : Key → D
  | .inl i => .int i
  | .inr x => .str x
def keyOk : Key → Bool
  | .inl _ => true
  | .inr x => PyData.strOk x
def itD (e : Key × D) : D := .tup [kD e.1, e.2]
section
variable {K : PySem.W.Frag} {A : Anc} {vs : L2.St} {env : Env}
end
section
variable {g : G0} {c : Ct} {o : Expr} {m : M Vl} {p apos cpos pos : Pos}
end
end PD
namespace PD
variable [PD.TabL]
open PySem PySem.Spec PyProof.Rows L2
def tupleBD : List D → Option Vl
  | [.lst ds] => some (.im (.tp ds))
  | _ => none
section
variable {X : Cx}
end
section
variable {X : Cx}
end
def ktD (k : List Key) : D := .tup (k.map kD)
section
variable {K : PySem.W.Frag} {A : Anc} {vs : L2.St} {env : Env}
end
end PD
namespace PD
variable [PD.TabL]
open PySem PySem.Spec PyProof.Rows L2 PDZ
/-- a thing that can be walked: where its iterator begins, and how it goes -/
structure Src (prog : Program) (w : World) (a : Addr) (items : Array Value) (h : Heap) (o : Obj) (Hh : Heap → Prop) (St : Addr → Nat → Heap → Prop) : Prop where
  begins : Begins (.ref a) o Hh
  now : Hh h
  lt : a < h.objs.size
  draws : ∀ (A : Around) (it : Addr), A.handled = none → a ≠ it → Draws prog w A it [it, a] items.size (fun i v => items[i]? = some v) (St it)
  start : ∀ (it : Addr) (h' : Heap), h'.get? it = some o → (∀ c u, h.get? c = some u → h'.get? c = some u) → St it 0 h'
  there : ∀ (it : Addr) (h' : Heap), St it 0 h' → ∀ b ∈ [it, a], ∃ u, h'.get? b = some u
/-- what is known of a zip that was just made -/
structure Zipped (prog : Program) (w : World) (xs ys : Array Value) (s : Shared) (h' : Heap) (f1 f2 : List Addr) (St1 St2 : Nat → Heap → Prop) : Prop where
  new : ZNew (s.heap.objs.size + 4) (s.heap.objs.size + 2) (s.heap.objs.size + 3) s.heap.objs.size (s.heap.objs.size + 1) St1 St2 h'
  sep : ZipSep2 (s.heap.objs.size + 4) (s.heap.objs.size + 2) (s.heap.objs.size + 3) s.heap.objs.size (s.heap.objs.size + 1) f1 f2
  d1 : ∀ A : Around, A.handled = none → Draws prog w A s.heap.objs.size f1 xs.size (fun i v => xs[i]? = some v) St1
  d2 : ∀ A : Around, A.handled = none → Draws prog w A (s.heap.objs.size + 1) f2 ys.size (fun i v => ys[i]? = some v) St2
  t1 : ∀ h, St1 0 h → ∀ b ∈ f1, ∃ o, h.get? b = some o
  t2 : ∀ h, St2 0 h → ∀ b ∈ f2, ∃ o, h.get? b = some o
  size : h'.objs.size = s.heap.objs.size + 5
  lts : ∀ b ∈ (s.heap.objs.size + 4) :: (s.heap.objs.size + 2) :: (s.heap.objs.size + 3) :: (f1 ++ f2), b < h'.objs.size
  keep : ∀ c o, s.heap.get? c = some o → h'.get? c = some o
/-- a list or a tuple -/
def SqA (K : PySem.W.Frag) (H : Hp) (a : Addr) (xs : List V) : Prop := SqL K H a xs ∨ SqT K H a xs
section
variable {X : Cx} {e1 e2 : Expr} {ta : TA} {p p2 pos pos2 : Pos}
end
section
variable {X : Cx} {e1 e2 : Expr} {ta : TA} {p p2 pos pos2 : Pos}
end
def seqD : D → Option (List D)
  | .lst ds => some ds
  | .tup ds => some ds
  | _ => none
section
variable {K : PySem.W.Frag} {A : Anc} {vs : L2.St} {env : Env}
theorem Rr.seq {B H : Hp} {d : D} {v : V} {ds : List D} (s : Same B H) (h : Rr K B H d v) (e : seqD d = some ds) : ∃ a xs, v = .ref a ∧ SqA K H a xs ∧ Rps K B ds xs := by
  cases d with
  | lst es =>
    cases e
    obtain ⟨a, xs, rfl, ha, r⟩ := h.lst s
    exact ⟨a, xs, rfl, .inl (.of ha), r⟩
  | tup es =>
    cases e
    obtain ⟨a, xs, rfl, ha, _, r⟩ := h.tup s
    exact ⟨a, xs, rfl, .inr (.of ha), r⟩
  | _ => cases e
end
section
variable {g : G0} {c : Ct} {a b : Expr} {ms : M (List Vl)} {p p2 pos pos2 : Pos}
end
end PD
namespace PDE
variable [PD.TabL]
open PySem PySem.Spec PyProof.Rows L2
section
variable {prog : Program} {w : World} {A : Around} {E : Value → Shared → Prop} {s : Shared}
end
end PDE
namespace PD
variable [PD.TabL]
open PySem PySem.Spec PyProof.Rows L2 PDE
def mEnumT (m : M Vl) : M (List D) := bd m fun r => bd (frz r.hold) fun d => match d with
  | .tup ds => rt (enumD 0 ds)
  | .tp ds => rt (enumD 0 ds)
  | _ => fun _ => none
section
variable {K : PySem.W.Frag} {A : Anc}
end
end PD
namespace PD
variable [PD.TabL]
open PySem PySem.Spec PyProof.Rows L2
theorem W_mEnumT {e : Env} {m : M Vl} {Q : List D → Env → Prop} : @W _ (mEnumT m) e ⟨Q⟩ = @W _ m e ⟨fun r e1 => @W _ (frz r.hold) e1 ⟨fun d e2 => @WO _ (seqT d) ⟨fun l => Q (enumD 0 l) e2⟩⟩⟩ := by
  unfold mEnumT
  simp only [W_eq, WO_eq, bd]
  cases m e with
  | none => rfl
  | some p =>
    dsimp only
    try rw [W_eq]
    cases frz p.1.hold p.2 with
    | none => rfl
    | some q =>
      obtain ⟨d, e2⟩ := q
      dsimp only
      try rw [WO_eq]
      cases d <;> rfl
theorem getK_put {κ : Type} [DecidableEq κ] : ∀ {es : List (κ × D)} {k k' : κ} {d : D}, getK (putD es k d) k' = if k = k' then some d else getK es k'
  | [], k, k', d => by
    unfold putD getK
    by_cases h : k = k' <;> simp [h]
  | e :: es, k, k', d => by
    have ih := getK_put (es := es) (k := k) (k' := k') (d := d)
    unfold putD getK at ih ⊢
    by_cases h1 : e.1 = k
    · by_cases h2 : k = k'
      · subst h2
        simp [h1]
      · have h3 : ¬ e.1 = k' := fun z => h2 (h1.symm.trans z)
        simp only [List.any_cons, h1, decide_true, Bool.true_or, if_true, List.map_cons, List.find?_cons, h2, decide_false]
        have hm : ∀ l : List (κ × D), ((l.map fun e => if e.1 = k then (e.1, d) else e).find? fun e => decide (e.1 = k')) = l.find? fun e => decide (e.1 = k') := by
          intro l
          induction l with
          | nil => rfl
          | cons x r ihr =>
            rw [List.map_cons, List.find?_cons, List.find?_cons, ihr]
            by_cases hx : x.1 = k
            · rw [if_pos hx]
              have : ¬ x.1 = k' := fun z => h2 (hx.symm.trans z)
              simp [this]
            · rw [if_neg hx]
        rw [hm]
        simp
    · by_cases h3 : e.1 = k'
      · have h2 : ¬ k = k' := fun z => h1 (h3.trans z.symm)
        have h4 : decide (e.1 = k') = true := decide_eq_true h3
        rw [if_neg h2]
        split
        · rw [List.map_cons, if_neg h1, List.find?_cons, List.find?_cons, h4]
        · rw [List.cons_append, List.find?_cons, List.find?_cons, h4]
      · simp only [List.any_cons, h1, decide_false, Bool.false_or]
        split at ih
        · rename_i ha
          rw [if_pos ha]
          simp only [List.map_cons, if_neg h1, List.find?_cons, h3, decide_false]
          exact ih
        · rename_i ha
          rw [if_neg ha]
          simp only [List.cons_append, List.find?_cons, h3, decide_false]
          exact ih
end PD
namespace PD
variable [PD.TabL]
open PySem PySem.Spec PyProof.Rows L2
theorem dataLe_tot (k : D → PyData) : PySem.W.TotalLe (PySem.W.dataLe false k) := PySem.W.sortLe_total _ _ _
theorem sortL_pw (ds : List D) : (sortL ds).Pairwise fun a b => PySem.W.dataLe false D.py a b = true :=
  List.pairwise_mergeSort (fun a b c => (dataLe_tot D.py).trans a b c) (fun a b => by
    have := (dataLe_tot D.py).total a b
    simpa using this) ds
theorem dataLe_anti {a b : D} (h1 : PySem.W.dataLe false D.py a b = true) (h2 : PySem.W.dataLe false D.py b a = true) : PySem.W.keyToks a.py = PySem.W.keyToks b.py := by
  have g1 : (!(listOrd itemOrd).blt (PySem.W.keyToks b.py) (PySem.W.keyToks a.py)) = true := h1
  have g2 : (!(listOrd itemOrd).blt (PySem.W.keyToks a.py) (PySem.W.keyToks b.py)) = true := h2
  rw [Bool.not_eq_true'] at g1 g2
  exact (listOrd itemOrd).total _ _ g2 g1
/-- the same things, sorted, are the same list -/
theorem sortL_eq {ds es : List D} (p : ds.Perm es) (inj : ∀ a ∈ ds, ∀ b ∈ ds, PySem.W.keyToks a.py = PySem.W.keyToks b.py → a = b) : sortL ds = sortL es := by
  have q : (sortL ds).Perm (sortL es) := (sortL_perm ds).trans (p.trans (sortL_perm es).symm)
  refine List.Perm.eq_of_pairwise (fun x y hx hy h1 h2 => ?_) (sortL_pw ds) (sortL_pw es) q
  exact inj x (sortL_mem.mp hx) y (p.mem_iff.mpr (sortL_mem.mp hy)) (dataLe_anti h1 h2)
end PD
namespace PD
variable [PD.TabL]
open PySem PySem.Spec PyProof.Rows L2
def gTl (n : Nat) (gs : List D → M Unit) : Vl → M Unit := fun r e => match r.hold with
  | .im (.lst ds) => if ds.length = n then gs ds e else none
  | _ => none
theorem W_gTl {e : Env} {n : Nat} {gs : List D → M Unit} {r : Vl} {Q : Unit → Env → Prop} : @W _ (gTl n gs r) e ⟨Q⟩ = @WO _ (match r.hold with | .im d => seqL d | _ => none) ⟨fun ds => @WC (decide (ds.length = n)) ⟨@W _ (gs ds) e ⟨Q⟩⟩⟩ := by
  unfold gTl WC
  simp only [W_eq, WO_eq]
  cases r.hold with
  | im d =>
    cases d <;> try rfl
    rename_i ds
    by_cases h : ds.length = n <;> simp [h, seqL]
  | fr d => rfl
  | bo i => rfl
end PD
namespace PD
variable [PD.TabL]
open PySem PySem.Spec PyProof.Rows L2
def eTupB (ms : M (List Vl)) : M Vl := bd ms fun rs => bd (frzs rs) fun ds => if small ds.length = true then rt (.im (.tp ds)) else fun _ => none
section
variable {K : PySem.W.Frag} {A : Anc}
end
theorem W_eTupB {e : Env} {ms : M (List Vl)} {Q : Vl → Env → Prop} : @W _ (eTupB ms) e ⟨Q⟩ = @W _ ms e ⟨fun rs e1 => @W _ (frzs rs) e1 ⟨fun ds e2 => @WC (small ds.length) ⟨Q (.im (.tp ds)) e2⟩⟩⟩ := by
  unfold eTupB
  simp only [W_eq, bd]
  cases ms e with
  | none => rfl
  | some p =>
    dsimp only
    cases frzs p.1 p.2 with
    | none => rfl
    | some q =>
      dsimp only
      unfold WC
      cases small q.1.length <;> simp [rt]
def sAug (i : Nat) (f : Int → Int → Int) (m : M Vl) : SM := fun e => match e[i]? with
  | some (.im (.int a)) => match m e with
    | some (.im (.int b), e1) => match gN i (.im (.int (f a b))) e1 with
      | some (_, e2) => some (.nx, e2)
      | none => none
    | _ => none
  | _ => none
section
variable {K : PySem.W.Frag} {A : Anc}
end
section
variable {g : G0} {c : Ct} {a : Expr} {m : M Vl} {pos pos' : Pos}
end
theorem W_sAug {e : Env} {i : Nat} {f : Int → Int → Int} {m : M Vl} {Q : Fl → Env → Prop} : @W _ (sAug i f m) e ⟨Q⟩ = @WO _ e[i]? ⟨fun sl => match sl with
    | .im (.int a) => @W _ m e ⟨fun r e1 => match r with | .im (.int b) => @WO _ (setO e1 i (.im (.int (f a b)))) ⟨fun e2 => Q .nx e2⟩ | _ => False⟩
    | _ => False⟩ := by
  unfold sAug
  simp only [W_eq, WO_eq]
  cases e[i]? with
  | none => rfl
  | some sl =>
    cases sl with
    | em => rfl
    | ow d => rfl
    | io j d => rfl
    | im d =>
      cases d with
      | int a =>
        dsimp only
        cases m e with
        | none => rfl
        | some p =>
          obtain ⟨r, e1⟩ := p
          cases r with
          | fr d => rfl
          | bo j => rfl
          | im d =>
            cases d with
            | int b =>
              dsimp only
              rw [← setO_ok]
              unfold gN
              by_cases h : i < e1.length
              · rw [if_pos h, if_pos h]
              · rw [if_neg h, if_neg h]
            | _ => rfl
      | _ => rfl
end PD
namespace PD
variable [PD.TabL]
open PySem PySem.Spec PyProof.Rows L2
theorem W_comp_fltA {α : Type} (c : α → D) (p : α → Bool) (f : α → D) {e : PD.Env} {vs : List Nat} {g : Vl → M Unit} {tt : M Bool} {te : M Vl} {Q : List D → PD.Env → Prop} : ∀ {ws : List α},
    (∀ w, w ∈ ws → @W _ (g (.im (c w))) e ⟨fun _ e1 => @W _ tt e1 ⟨fun b e2 => @WB b ⟨@W _ te e2 ⟨fun r e3 => @W _ (frz r.hold) e3 ⟨fun y e4 => p w = true ∧ y = f w ∧ wipeE e4 vs = e⟩⟩, p w = false ∧ wipeE e2 vs = e⟩⟩⟩) →
    Q ((ws.filter p).map f) e → @W _ (compL vs g tt te (ws.map c)) e ⟨Q⟩ := by
  intro ws hs hq
  refine ⟨_, _, ?_, hq⟩
  clear hq
  induction ws with
  | nil => rfl
  | cons w ws ih =>
    have ih := ih fun d hd => hs d (List.mem_cons_of_mem _ hd)
    obtain ⟨_, e1, h1, b, e2, h2, h3⟩ := hs w (List.mem_cons_self ..)
    rw [List.map_cons, compL]
    cases b with
    | false =>
      have h3 : @WB false ⟨_, p w = false ∧ wipeE e2 vs = e⟩ := h3
      rw [WB_false] at h3
      simp only [h1, h2, h3.2, ih, List.filter_cons, h3.1, Bool.false_eq_true, if_false]
    | true =>
      have h3 : @WB true ⟨@W _ te e2 ⟨fun r e3 => @W _ (frz r.hold) e3 ⟨fun y e4 => p w = true ∧ y = f w ∧ wipeE e4 vs = e⟩⟩, _⟩ := h3
      rw [WB_true] at h3
      obtain ⟨r, e3, h4, y, e4, h5, h6, h7, h8⟩ := h3
      have h7 : y = f w := h7
      have h6 : p w = true := h6
      have h8 : wipeE e4 vs = e := h8
      simp only [h1, h2, h4, h5, h8, ih, List.filter_cons, h6, if_true, List.map_cons, h7]
/-- a comprehension without a test over things told by a -/
theorem W_comp_mapA {α : Type} (c : α → D) (f : α → D) {e : PD.Env} {vs : List Nat} {g : Vl → M Unit} {te : M Vl} {Q : List D → PD.Env → Prop} {ws : List α}
    (h : ∀ w, w ∈ ws → @W _ (g (.im (c w))) e ⟨fun _ e1 => @W _ te e1 ⟨fun r e3 => @W _ (frz r.hold) e3 ⟨fun y e4 => y = f w ∧ wipeE e4 vs = e⟩⟩⟩)
    (q : Q (ws.map f) e) : @W _ (compL vs g (rt true) te (ws.map c)) e ⟨Q⟩ := by
  refine W_comp_fltA c (fun _ => true) f (fun w hw => ?_) (by rw [List.filter_eq_self.mpr (fun _ _ => rfl)]; exact q)
  refine W_mono (h w hw) fun _ e1 h1 => ?_
  rw [W_rt, WB_true]
  refine W_mono h1 fun r e3 h2 => ?_
  exact W_mono h2 fun y e4 h3 => ⟨rfl, h3.1, h3.2⟩
theorem take_snoc {α : Type} {l : List α} {i : Nat} {a : α} (h : l[i]? = some a) : l.take (i + 1) = l.take i ++ [a] := by
  rw [List.take_add_one, h]
  rfl
theorem at_map {α β : Type} {c : α → β} {l : List α} {i : Nat} {d : β} (h : (l.map c)[i]? = some d) : ∃ a, l[i]? = some a ∧ a ∈ l ∧ d = c a := by
  rw [List.getElem?_map] at h
  obtain ⟨f, hf, rfl⟩ := Option.map_eq_some_iff.mp h
  exact ⟨f, hf, List.mem_of_getElem? hf, rfl⟩
theorem at_of {α : Type} {l : List α} {i : Nat} (h : i < l.length) : ∃ a, l[i]? = some a ∧ a ∈ l := ⟨l[i], List.getElem?_eq_getElem h, List.getElem_mem h⟩
theorem snoc_get {α : Type} {l : List α} {a b : α} {i : Nat} (h : (l ++ [a])[i]? = some b) : (i < l.length ∧ l[i]? = some b) ∨ (i = l.length ∧ b = a) := getE_snoc h
theorem WO_atA {α : Type} (c : α → D) {l : List α} {i : Int} {K : D → Prop} (h0 : 0 ≤ i) (h1 : i < l.length) (q : ∀ (j : Nat) (a : α), i = j → l[j]? = some a → K (c a)) : @WO _ (L2.atI (l.map c) i) ⟨K⟩ :=
  WO_at h0 (by rw [List.length_map]; exact h1) fun j a hj ha => by
    obtain ⟨x, hx, _, rfl⟩ := at_map ha
    exact q j x hj hx
theorem atI_map {α : Type} (c : α → D) {l : List α} {j : Nat} {a : α} (h : l[j]? = some a) : L2.atI (l.map c) (j : Int) = some (c a) := at_nat (by rw [List.getElem?_map, h]; rfl)
theorem strs_py (xs : List Str) : arePy (xs.map D.str) = true := by
  rw [arePy_all]
  exact List.all_eq_true.mpr fun d hd => by
    obtain ⟨x, _, rfl⟩ := List.mem_map.mp hd
    rfl
theorem strs_dep (xs : List Str) : PyData.depthAll (pys (xs.map D.str)) = 0 := by
  induction xs with
  | nil => rfl
  | cons x r ih => simp [pys, PyData.depthAll, D.py, PyData.depth, ih]
theorem any_strs (x : Str) (xs : List Str) : ((xs.map D.str).any fun z => eqB z (.str x)) = decide (x ∈ xs) := by
  induction xs with
  | nil => simp
  | cons y r ih =>
    rw [List.map_cons, List.any_cons, ih, eqB_str]
    by_cases h : y = x
    · simp [h]
    · have : ¬ x = y := fun z => h z.symm
      simp [h, this]
theorem inB_strs (x : Str) (xs : List Str) : inB [.str x, .lst (xs.map D.str)] = some (decide (x ∈ xs)) := by
  have e : ((D.str x).isPy && arePy (xs.map D.str) && depB 64 (.str x) && depsB 63 (xs.map D.str)) = true := by
    rw [strs_py]
    have h1 : depB 64 (.str x) = true := rfl
    have h2 : depsB 63 (xs.map D.str) = true := decide_eq_true (by rw [strs_dep]; decide)
    rw [h1, h2]
    rfl
  show (if ((D.str x).isPy && arePy (xs.map D.str) && depB 64 (.str x) && depsB 63 (xs.map D.str)) = true then some _ else none) = _
  rw [if_pos e, any_strs]
theorem notIn_strs (x : Str) (xs : List Str) : notInD [.str x, .lst (xs.map D.str)] = some (.im (.bl (!decide (x ∈ xs)))) := by
  rw [notInD, inB_strs]
  rfl
theorem cut_map {α β : Type} (f : α → β) (l : List α) (lo hi : Option Int) : cutD (l.map f) lo hi = (cutD l lo hi).map f := by
  unfold cutD
  rw [List.length_map, List.map_take, List.map_drop]
theorem cut_takeN {α : Type} (ds : List α) (i : Nat) : cutD ds none (some (i : Int)) = ds.take i := cut_take ds i
/-- sorted things that are told by a -/
theorem sortL_map {α : Type} (c : α → D) (l : List α) : ∃ m : List α, m.Perm l ∧ sortL (l.map c) = m.map c :=
  ⟨l.mergeSort fun a b => PySem.W.dataLe false D.py (c a) (c b), List.mergeSort_perm _ _, (List.map_mergeSort (f := c) (fun a _ b _ => rfl)).symm⟩
end PD
namespace PD
variable [PD.TabL]
open PySem PySem.Spec PyProof.Rows L2
theorem As.empty {n : Nat} : As n (Str.ofString "") := ⟨by show (Str.ofString "").length ≤ n; rw [show (Str.ofString "").length = 0 by decide +kernel]; omega, fun c hc => by
  have : (Str.ofString "").cps.toList = [] := by decide +kernel
  rw [this] at hc
  simp at hc⟩
abbrev noS : Str := Str.ofString ""
theorem noS_len {x : Str} (h : 1 ≤ x.length) : x ≠ noS := fun z => by
  rw [z, show noS.length = 0 by decide +kernel] at h
  omega
structure Fld where
  nm : Str
  ow : Str
  bl : Str
  dy : Int
  so : Int
def Fld.d (f : Fld) : D := .tup [.str f.nm, .str f.ow, .str f.bl, .int f.dy, .int f.so]
def Fld.ok (f : Fld) : Prop := (As 8 f.nm ∧ 1 ≤ f.nm.length) ∧ As 8 f.ow ∧ As 8 f.bl ∧ 1 ≤ f.dy ∧ f.dy ≤ 999 ∧ 0 ≤ f.so ∧ f.so ≤ 99
theorem Fld.ok.ne {f : Fld} (h : f.ok) : f.nm ≠ noS := noS_len h.1.2
structure Gt where
  nm : Str
  mo : Int
  ri : List Str
  al : List Str
def Gt.d (g : Gt) : D := .tup [.str g.nm, .int g.mo, .tup (g.ri.map D.str), .tup (g.al.map D.str)]
structure Gt.ok (fl : List Fld) (g : Gt) : Prop where
  nm : As 8 g.nm
  m0 : 1 ≤ g.mo
  m1 : g.mo ≤ 999
  r0 : 1 ≤ g.ri.length
  r1 : g.ri.length ≤ 12
  r2 : ∀ x ∈ g.ri, As 8 x
  a0 : 1 ≤ g.al.length
  a1 : g.al.length ≤ 9
  a2 : ∀ x ∈ g.al, As 8 x
  a3 : ∀ x ∈ g.al, ∃ f ∈ fl, f.nm = x
def terD (fl : List Fld) (gs : List Gt) : D := .tup [.tup (fl.map Fld.d), .tup (gs.map Gt.d)]
def FieldT : Ty := .tup [.str 8, .str 8, .str 8, .int 1 999, .int 0 99]
def GateT : Ty := .tup [.str 8, .int 1 999, .tv (.str 8) 12, .tv (.str 8) 9]
def TerT : Ty := .tup [.tv FieldT 8, .tv GateT 4]
/-- below lies nothing, or a field that was made before the k-th -/
def Blw (fl : List Fld) (k : Nat) (x : Str) : Prop := x = noS ∨ ∃ j h, j < k ∧ fl[j]? = some h ∧ h.nm = x
theorem Blw.app {fl gl : List Fld} {k : Nat} {x : Str} (h : Blw fl k x) : Blw (fl ++ gl) k x := by
  rcases h with h | ⟨j, g, h1, h2, h3⟩
  · exact .inl h
  · exact .inr ⟨j, g, h1, by rw [List.getElem?_append_left (List.getElem?_eq_some_iff.mp h2).1]; exact h2, h3⟩
structure TerrOk (fl : List Fld) : Prop where
  nd : (fl.map Fld.nm).Nodup
  ok : ∀ f ∈ fl, f.ok
  dag : ∃ rk : Str → Nat, ∀ f ∈ fl, rk f.nm < fl.length ∧ (f.bl = noS ∨ ∃ g ∈ fl, g.nm = f.bl ∧ rk f.bl < rk f.nm)
theorem TerrOk.perm {fl gl : List Fld} (p : gl.Perm fl) (h : TerrOk fl) : TerrOk gl := by
  obtain ⟨rk, hr⟩ := h.dag
  refine ⟨(p.map _).nodup_iff.mpr h.nd, fun f hf => h.ok f (p.mem_iff.mp hf), rk, fun f hf => ?_⟩
  obtain ⟨a, b⟩ := hr f (p.mem_iff.mp hf)
  refine ⟨by rw [p.length_eq]; exact a, ?_⟩
  rcases b with b | ⟨g, b1, b2, b3⟩
  · exact .inl b
  · exact .inr ⟨g, p.mem_iff.mpr b1, b2, b3⟩
theorem TerrOk.eq {fl : List Fld} (h : TerrOk fl) {f g : Fld} (hf : f ∈ fl) (hg : g ∈ fl) (e : f.nm = g.nm) : f = g := by
  obtain ⟨i, hi⟩ := List.mem_iff_getElem?.mp hf
  obtain ⟨j, hj⟩ := List.mem_iff_getElem?.mp hg
  have h1 : (fl.map Fld.nm)[i]? = some f.nm := by rw [List.getElem?_map, hi]; rfl
  have h2 : (fl.map Fld.nm)[j]? = some g.nm := by rw [List.getElem?_map, hj]; rfl
  have : i = j := (List.getElem?_inj (List.getElem?_eq_some_iff.mp h1).1 h.nd).mp (by rw [h1, h2, e])
  rw [this, hj] at hi
  exact (Option.some.inj hi).symm
abbrev Bk := List (Str × Int)
def bD (p : Str × Int) : D := .tup [.str p.1, .int p.2]
def lkB (bl : Bk) (f : Str) : Option Int := (bl.find? fun p => decide (p.1 = f)).map (·.2)
structure Lt where
  g : Str
  f : Str
  m : Int
def Lt.d (l : Lt) : D := .tup [.str l.g, .str l.f, .int l.m]
structure Dn where
  ra : Int
  su : Int
  ls : List Lt
  bs : Bk
def Dn.d (n : Dn) : D := .tup [.int n.ra, .int n.su, .tup (n.ls.map Lt.d), .tp (n.bs.map bD)]
structure Dn.ok (n : Dn) : Prop where
  r0 : 0 ≤ n.ra
  r1 : n.ra ≤ 99
  s0 : 0 ≤ n.su
  s1 : n.su ≤ 99
  ll : n.ls.length ≤ 40
  l0 : ∀ l ∈ n.ls, As 8 l.g ∧ As 8 l.f ∧ 0 ≤ l.m ∧ l.m ≤ 99999
  bl : n.bs.length ≤ 8
  b0 : (n.bs.map (·.1)).Nodup
  b1 : ∀ b ∈ n.bs, As 8 b.1 ∧ 0 ≤ b.2 ∧ b.2 ≤ 998
structure Rw where
  ra : Int
  le : Int
  ca : Int
  rn : Int
  so : Int
  dr : Int
  st : Int
def Rw.d (r : Rw) : D := .tup [.int r.ra, .int r.le, .int r.ca, .int r.rn, .int r.so, .int r.dr, .int r.st]
def mn (a b : Int) : Int := if b < a then b else a
def Dn.into (n : Dn) (x : Str) : Int := ((n.ls.filter fun l => decide (l.f = x)).map Lt.m).sum
def Dn.lvl (n : Dn) (f : Fld) : Int := (lkB n.bs f.nm).getD f.dy
/-- what is full, held, soaks, is drunk -/
def rowOf (f : Fld) (w : Int) (n : Dn) (ca : Int) : Rw :=
  let full := w + n.ra + n.into f.nm + ca
  let left := mn full (n.lvl f)
  let soaked := mn left f.so
  let drunk := mn (left - soaked) n.su
  ⟨n.ra, n.into f.nm, ca, full - left, soaked, drunk, left - soaked - drunk⟩
/-- what comes from those above x -/
def cameOf : List Fld → List Rw → Str → Int
  | f :: fl, r :: rs, x => (if f.bl = x then r.rn else 0) + cameOf fl rs x
  | _, _, _ => 0
/-- the rows of a day -/
structure Sol (fl : List Fld) (st : List Int) (n : Dn) (rs : List Rw) : Prop where
  len : rs.length = fl.length
  row : ∀ (i : Nat) (f : Fld) (w : Int) (r : Rw), fl[i]? = some f → st[i]? = some w → rs[i]? = some r → r = rowOf f w n (cameOf fl rs f.nm)
theorem cameOf_rel {x : Str} : ∀ {fl : List Fld} {a b : List Rw}, a.length = fl.length → b.length = fl.length → (∀ (i : Nat) (f : Fld) (r s : Rw), fl[i]? = some f → a[i]? = some r → b[i]? = some s → f.bl = x → r.rn ≤ s.rn) → cameOf fl a x ≤ cameOf fl b x
  | [], [], [], _, _, _ => Int.le_refl _
  | f :: fl, r :: a, s :: b, h1, h2, h => by
    have ih := cameOf_rel (x := x) (fl := fl) (a := a) (b := b) (by simpa using h1) (by simpa using h2) fun i f r s e1 e2 e3 => h (i + 1) f r s (by simpa using e1) (by simpa using e2) (by simpa using e3)
    have h0 := h 0 f r s rfl rfl rfl
    unfold cameOf
    by_cases e : f.bl = x
    · rw [if_pos e, if_pos e]
      have := h0 e
      omega
    · rw [if_neg e, if_neg e]
      omega
  | [], _ :: _, _, h, _, _ => by simp at h
  | [], [], _ :: _, _, h, _ => by simp at h
  | _ :: _, [], _, h, _, _ => by simp at h
  | _ :: _, _ :: _, [], _, h, _ => by simp at h
theorem cameOf_congr {x : Str} {fl : List Fld} {a b : List Rw} (h1 : a.length = fl.length) (h2 : b.length = fl.length) (h : ∀ (i : Nat) (f : Fld) (r s : Rw), fl[i]? = some f → a[i]? = some r → b[i]? = some s → f.bl = x → r.rn = s.rn) : cameOf fl a x = cameOf fl b x :=
  Int.le_antisymm (cameOf_rel h1 h2 fun i f r s e1 e2 e3 e4 => Int.le_of_eq (h i f r s e1 e2 e3 e4)) (cameOf_rel h2 h1 fun i f r s e1 e2 e3 e4 => Int.le_of_eq (h i f s r e1 e3 e2 e4).symm)
/-- from the top downwards: what holds of those above x holds of x -/
theorem down_ind {fl : List Fld} (h : TerrOk fl) {P : Nat → Prop} (hs : ∀ (i : Nat) (f : Fld), fl[i]? = some f → (∀ (j : Nat) (g : Fld), fl[j]? = some g → g.bl = f.nm → P j) → P i) : ∀ i, i < fl.length → P i := by
  obtain ⟨rk, hr⟩ := h.dag
  have key : ∀ (n i : Nat) (f : Fld), fl[i]? = some f → fl.length - rk f.nm ≤ n → P i := by
    intro n
    induction n with
    | zero =>
      intro i f hi hn
      have := (hr f (List.mem_of_getElem? hi)).1
      omega
    | succ n ih =>
      intro i f hi hn
      refine hs i f hi fun j g hj hg => ih j g hj ?_
      have hgm := List.mem_of_getElem? hj
      have hfm := List.mem_of_getElem? hi
      rcases (hr g hgm).2 with b | ⟨_, _, _, b⟩
      · exact absurd (hg.symm.trans b) (h.ok f hfm).ne
      · rw [hg] at b
        have := (hr g hgm).1
        omega
  intro i hi
  exact key _ i _ (List.getElem?_eq_getElem hi) (Nat.le_refl _)
theorem Sol.uniq {fl : List Fld} (h : TerrOk fl) {st : List Int} (hst : st.length = fl.length) {n : Dn} {a b : List Rw} (ha : Sol fl st n a) (hb : Sol fl st n b) : a = b := by
  have key := down_ind h (P := fun i => a[i]? = b[i]?) fun i f hi hs => by
    have hl := (List.getElem?_eq_some_iff.mp hi).1
    obtain ⟨ra, ea, _⟩ := at_of (l := a) (i := i) (by rw [ha.len]; exact hl)
    obtain ⟨rb, eb, _⟩ := at_of (l := b) (i := i) (by rw [hb.len]; exact hl)
    obtain ⟨w, ew, _⟩ := at_of (l := st) (i := i) (by rw [hst]; exact hl)
    rw [ea, eb, ha.row i f _ _ hi ew ea, hb.row i f _ _ hi ew eb]
    rw [cameOf_congr ha.len hb.len fun j g r s h1 h2 h3 h4 => by
      have := hs j g h1 h4
      rw [h2, h3] at this
      rw [Option.some.inj this]]
  apply List.ext_getElem?
  intro i
  by_cases hi : i < fl.length
  · exact key i hi
  · rw [List.getElem?_eq_none (by rw [ha.len]; omega), List.getElem?_eq_none (by rw [hb.len]; omega)]
end PD
namespace PD
variable [PD.TabL]
open PySem PySem.Spec PyProof.Rows L2
def zeroR : Rw := ⟨0, 0, 0, 0, 0, 0, 0⟩
def dayN (fl : List Fld) (st : List Int) (n : Dn) : Nat → List Rw
  | 0 => List.zipWith (fun _ _ => zeroR) fl st
  | k + 1 => List.zipWith (fun f w => rowOf f w n (cameOf fl (dayN fl st n k) f.nm)) fl st
def dayR (fl : List Fld) (st : List Int) (n : Dn) : List Rw := dayN fl st n fl.length
section
variable {fl : List Fld} {st : List Int} {n : Dn}
theorem dayN_len (hst : st.length = fl.length) : ∀ k, (dayN fl st n k).length = fl.length
  | 0 => by rw [dayN, List.length_zipWith]; omega
  | k + 1 => by rw [dayN, List.length_zipWith]; omega
theorem dayN_at {k i : Nat} {f : Fld} {w : Int} (hf : fl[i]? = some f) (hw : st[i]? = some w) : (dayN fl st n (k + 1))[i]? = some (rowOf f w n (cameOf fl (dayN fl st n k) f.nm)) := by
  rw [dayN, List.getElem?_zipWith, hf, hw]
theorem dayN_stable (h : TerrOk fl) (hst : st.length = fl.length) {rk : Str → Nat} (hr : ∀ f ∈ fl, rk f.nm < fl.length ∧ (f.bl = noS ∨ ∃ g ∈ fl, g.nm = f.bl ∧ rk f.bl < rk f.nm)) : ∀ (k i : Nat) (f : Fld), fl[i]? = some f → fl.length - rk f.nm ≤ k → ∀ m, k ≤ m → (dayN fl st n m)[i]? = (dayN fl st n k)[i]?
  | 0, i, f, hf, hk, m, hm => by
    have := (hr f (List.mem_of_getElem? hf)).1
    omega
  | k + 1, i, f, hf, hk, m, hm => by
    obtain ⟨m', rfl⟩ : ∃ m', m = m' + 1 := ⟨m - 1, by omega⟩
    obtain ⟨w, hw, _⟩ := at_of (l := st) (i := i) (by rw [hst]; exact (List.getElem?_eq_some_iff.mp hf).1)
    rw [dayN_at hf hw, dayN_at hf hw]
    rw [cameOf_congr (dayN_len hst m') (dayN_len hst k) fun j g r s h1 h2 h3 h4 => ?_]
    have hgm := List.mem_of_getElem? h1
    have hfm := List.mem_of_getElem? hf
    rcases (hr g hgm).2 with b | ⟨_, _, _, b⟩
    · exact absurd (h4.symm.trans b) (h.ok f hfm).ne
    · rw [h4] at b
      have := (hr g hgm).1
      have := dayN_stable h hst hr k j g h1 (by omega) m' (by omega)
      rw [h2, h3] at this
      rw [Option.some.inj this]
theorem dayR_sol (h : TerrOk fl) (hst : st.length = fl.length) : Sol fl st n (dayR fl st n) := by
  obtain ⟨rk, hr⟩ := h.dag
  have e : dayN fl st n (fl.length + 1) = dayR fl st n := by
    apply List.ext_getElem?
    intro i
    by_cases hi : i < fl.length
    · obtain ⟨f, hf, _⟩ := at_of hi
      exact dayN_stable h hst hr fl.length i f hf (by omega) _ (by omega)
    · rw [List.getElem?_eq_none (by rw [dayN_len hst]; omega), List.getElem?_eq_none (by rw [dayR, dayN_len hst]; omega)]
  refine ⟨dayN_len hst _, fun i f w r hf hw hr' => ?_⟩
  have := dayN_at (n := n) (k := fl.length) hf hw
  rw [e, hr'] at this
  exact Option.some.inj this
theorem Sol.eq (h : TerrOk fl) (hst : st.length = fl.length) {rs : List Rw} (hs : Sol fl st n rs) : rs = dayR fl st n := hs.uniq h hst (dayR_sol h hst)
end
abbrev T3 := Fld × Int × Rw
/-- in the order of going down -/
structure OrdT (ts os : List T3) : Prop where
  perm : os.Perm ts
  down : ∀ (i j : Nat) (t u : T3), os[i]? = some t → os[j]? = some u → u.1.bl = t.1.nm → j < i
theorem Fld_i0 (x : Fld) : ixD [Fld.d x, .int 0] = some (.im (.str x.nm)) := by
  show (L2.atI [.str x.nm, .str x.ow, .str x.bl, .int x.dy, .int x.so] 0).map Vl.im = _
  rw [at0]
  rfl
theorem Fld_i1 (x : Fld) : ixD [Fld.d x, .int 1] = some (.im (.str x.ow)) := by
  show (L2.atI [.str x.nm, .str x.ow, .str x.bl, .int x.dy, .int x.so] 1).map Vl.im = _
  rw [at1]
  rfl
theorem Fld_i2 (x : Fld) : ixD [Fld.d x, .int 2] = some (.im (.str x.bl)) := by
  show (L2.atI [.str x.nm, .str x.ow, .str x.bl, .int x.dy, .int x.so] 2).map Vl.im = _
  rw [at2]
  rfl
theorem Fld_i3 (x : Fld) : ixD [Fld.d x, .int 3] = some (.im (.int x.dy)) := by
  show (L2.atI [.str x.nm, .str x.ow, .str x.bl, .int x.dy, .int x.so] 3).map Vl.im = _
  rw [at3]
  rfl
theorem Fld_i4 (x : Fld) : ixD [Fld.d x, .int 4] = some (.im (.int x.so)) := by
  show (L2.atI [.str x.nm, .str x.ow, .str x.bl, .int x.dy, .int x.so] 4).map Vl.im = _
  rw [at4]
  rfl
theorem W_gT_Fld {e : Env} {x : Fld} {gs : List D → M Unit} {Q : Unit → Env → Prop} : @W _ (gT 5 gs (.im (Fld.d x))) e ⟨Q⟩ = @W _ (gs [.str x.nm, .str x.ow, .str x.bl, .int x.dy, .int x.so]) e ⟨Q⟩ := by
  show @W _ (gT 5 gs (.im (.tup [.str x.nm, .str x.ow, .str x.bl, .int x.dy, .int x.so]))) e ⟨Q⟩ = _
  rw [W_gT, show decide (([.str x.nm, .str x.ow, .str x.bl, .int x.dy, .int x.so] : List D).length = 5) = true from rfl, WC_true]
theorem Gt_i0 (x : Gt) : ixD [Gt.d x, .int 0] = some (.im (.str x.nm)) := by
  show (L2.atI [.str x.nm, .int x.mo, .tup (x.ri.map D.str), .tup (x.al.map D.str)] 0).map Vl.im = _
  rw [at0]
  rfl
theorem Gt_i1 (x : Gt) : ixD [Gt.d x, .int 1] = some (.im (.int x.mo)) := by
  show (L2.atI [.str x.nm, .int x.mo, .tup (x.ri.map D.str), .tup (x.al.map D.str)] 1).map Vl.im = _
  rw [at1]
  rfl
theorem Gt_i2 (x : Gt) : ixD [Gt.d x, .int 2] = some (.im (.tup (x.ri.map D.str))) := by
  show (L2.atI [.str x.nm, .int x.mo, .tup (x.ri.map D.str), .tup (x.al.map D.str)] 2).map Vl.im = _
  rw [at2]
  rfl
theorem Gt_i3 (x : Gt) : ixD [Gt.d x, .int 3] = some (.im (.tup (x.al.map D.str))) := by
  show (L2.atI [.str x.nm, .int x.mo, .tup (x.ri.map D.str), .tup (x.al.map D.str)] 3).map Vl.im = _
  rw [at3]
  rfl
theorem W_gT_Gt {e : Env} {x : Gt} {gs : List D → M Unit} {Q : Unit → Env → Prop} : @W _ (gT 4 gs (.im (Gt.d x))) e ⟨Q⟩ = @W _ (gs [.str x.nm, .int x.mo, .tup (x.ri.map D.str), .tup (x.al.map D.str)]) e ⟨Q⟩ := by
  show @W _ (gT 4 gs (.im (.tup [.str x.nm, .int x.mo, .tup (x.ri.map D.str), .tup (x.al.map D.str)]))) e ⟨Q⟩ = _
  rw [W_gT, show decide (([.str x.nm, .int x.mo, .tup (x.ri.map D.str), .tup (x.al.map D.str)] : List D).length = 4) = true from rfl, WC_true]
theorem Lt_i0 (x : Lt) : ixD [Lt.d x, .int 0] = some (.im (.str x.g)) := by
  show (L2.atI [.str x.g, .str x.f, .int x.m] 0).map Vl.im = _
  rw [at0]
  rfl
theorem Lt_i1 (x : Lt) : ixD [Lt.d x, .int 1] = some (.im (.str x.f)) := by
  show (L2.atI [.str x.g, .str x.f, .int x.m] 1).map Vl.im = _
  rw [at1]
  rfl
theorem Lt_i2 (x : Lt) : ixD [Lt.d x, .int 2] = some (.im (.int x.m)) := by
  show (L2.atI [.str x.g, .str x.f, .int x.m] 2).map Vl.im = _
  rw [at2]
  rfl
theorem W_gT_Lt {e : Env} {x : Lt} {gs : List D → M Unit} {Q : Unit → Env → Prop} : @W _ (gT 3 gs (.im (Lt.d x))) e ⟨Q⟩ = @W _ (gs [.str x.g, .str x.f, .int x.m]) e ⟨Q⟩ := by
  show @W _ (gT 3 gs (.im (.tup [.str x.g, .str x.f, .int x.m]))) e ⟨Q⟩ = _
  rw [W_gT, show decide (([.str x.g, .str x.f, .int x.m] : List D).length = 3) = true from rfl, WC_true]
theorem bD_i0 (x : Str × Int) : ixD [bD x, .int 0] = some (.im (.str x.1)) := by
  show (L2.atI [.str x.1, .int x.2] 0).map Vl.im = _
  rw [at0]
  rfl
theorem bD_i1 (x : Str × Int) : ixD [bD x, .int 1] = some (.im (.int x.2)) := by
  show (L2.atI [.str x.1, .int x.2] 1).map Vl.im = _
  rw [at1]
  rfl
theorem W_gT_bD {e : Env} {x : Str × Int} {gs : List D → M Unit} {Q : Unit → Env → Prop} : @W _ (gT 2 gs (.im (bD x))) e ⟨Q⟩ = @W _ (gs [.str x.1, .int x.2]) e ⟨Q⟩ := by
  show @W _ (gT 2 gs (.im (.tup [.str x.1, .int x.2]))) e ⟨Q⟩ = _
  rw [W_gT, show decide (([.str x.1, .int x.2] : List D).length = 2) = true from rfl, WC_true]
theorem Dn_i0 (x : Dn) : ixD [Dn.d x, .int 0] = some (.im (.int x.ra)) := by
  show (L2.atI [.int x.ra, .int x.su, .tup (x.ls.map Lt.d), .tp (x.bs.map bD)] 0).map Vl.im = _
  rw [at0]
  rfl
theorem Dn_i1 (x : Dn) : ixD [Dn.d x, .int 1] = some (.im (.int x.su)) := by
  show (L2.atI [.int x.ra, .int x.su, .tup (x.ls.map Lt.d), .tp (x.bs.map bD)] 1).map Vl.im = _
  rw [at1]
  rfl
theorem Dn_i2 (x : Dn) : ixD [Dn.d x, .int 2] = some (.im (.tup (x.ls.map Lt.d))) := by
  show (L2.atI [.int x.ra, .int x.su, .tup (x.ls.map Lt.d), .tp (x.bs.map bD)] 2).map Vl.im = _
  rw [at2]
  rfl
theorem Dn_i3 (x : Dn) : ixD [Dn.d x, .int 3] = some (.im (.tp (x.bs.map bD))) := by
  show (L2.atI [.int x.ra, .int x.su, .tup (x.ls.map Lt.d), .tp (x.bs.map bD)] 3).map Vl.im = _
  rw [at3]
  rfl
theorem W_gT_Dn {e : Env} {x : Dn} {gs : List D → M Unit} {Q : Unit → Env → Prop} : @W _ (gT 4 gs (.im (Dn.d x))) e ⟨Q⟩ = @W _ (gs [.int x.ra, .int x.su, .tup (x.ls.map Lt.d), .tp (x.bs.map bD)]) e ⟨Q⟩ := by
  show @W _ (gT 4 gs (.im (.tup [.int x.ra, .int x.su, .tup (x.ls.map Lt.d), .tp (x.bs.map bD)]))) e ⟨Q⟩ = _
  rw [W_gT, show decide (([.int x.ra, .int x.su, .tup (x.ls.map Lt.d), .tp (x.bs.map bD)] : List D).length = 4) = true from rfl, WC_true]
theorem Rw_i0 (x : Rw) : ixD [Rw.d x, .int 0] = some (.im (.int x.ra)) := by
  show (L2.atI [.int x.ra, .int x.le, .int x.ca, .int x.rn, .int x.so, .int x.dr, .int x.st] 0).map Vl.im = _
  rw [at0]
  rfl
theorem Rw_i1 (x : Rw) : ixD [Rw.d x, .int 1] = some (.im (.int x.le)) := by
  show (L2.atI [.int x.ra, .int x.le, .int x.ca, .int x.rn, .int x.so, .int x.dr, .int x.st] 1).map Vl.im = _
  rw [at1]
  rfl
theorem Rw_i2 (x : Rw) : ixD [Rw.d x, .int 2] = some (.im (.int x.ca)) := by
  show (L2.atI [.int x.ra, .int x.le, .int x.ca, .int x.rn, .int x.so, .int x.dr, .int x.st] 2).map Vl.im = _
  rw [at2]
  rfl
theorem Rw_i3 (x : Rw) : ixD [Rw.d x, .int 3] = some (.im (.int x.rn)) := by
  show (L2.atI [.int x.ra, .int x.le, .int x.ca, .int x.rn, .int x.so, .int x.dr, .int x.st] 3).map Vl.im = _
  rw [at3]
  rfl
theorem Rw_i4 (x : Rw) : ixD [Rw.d x, .int 4] = some (.im (.int x.so)) := by
  show (L2.atI [.int x.ra, .int x.le, .int x.ca, .int x.rn, .int x.so, .int x.dr, .int x.st] 4).map Vl.im = _
  rw [at4]
  rfl
theorem Rw_i5 (x : Rw) : ixD [Rw.d x, .int 5] = some (.im (.int x.dr)) := by
  show (L2.atI [.int x.ra, .int x.le, .int x.ca, .int x.rn, .int x.so, .int x.dr, .int x.st] 5).map Vl.im = _
  rw [at5]
  rfl
theorem Rw_i6 (x : Rw) : ixD [Rw.d x, .int 6] = some (.im (.int x.st)) := by
  show (L2.atI [.int x.ra, .int x.le, .int x.ca, .int x.rn, .int x.so, .int x.dr, .int x.st] 6).map Vl.im = _
  rw [at6]
  rfl
theorem W_gT_Rw {e : Env} {x : Rw} {gs : List D → M Unit} {Q : Unit → Env → Prop} : @W _ (gT 7 gs (.im (Rw.d x))) e ⟨Q⟩ = @W _ (gs [.int x.ra, .int x.le, .int x.ca, .int x.rn, .int x.so, .int x.dr, .int x.st]) e ⟨Q⟩ := by
  show @W _ (gT 7 gs (.im (.tup [.int x.ra, .int x.le, .int x.ca, .int x.rn, .int x.so, .int x.dr, .int x.st]))) e ⟨Q⟩ = _
  rw [W_gT, show decide (([.int x.ra, .int x.le, .int x.ca, .int x.rn, .int x.so, .int x.dr, .int x.st] : List D).length = 7) = true from rfl, WC_true]
theorem Ter_i0 (fl : List Fld) (gs : List Gt) : ixD [terD fl gs, .int 0] = some (.im (.tup (fl.map Fld.d))) := by
  show (L2.atI [D.tup (fl.map Fld.d), D.tup (gs.map Gt.d)] 0).map Vl.im = _
  rw [at0]
  rfl
theorem Ter_i1 (fl : List Fld) (gs : List Gt) : ixD [terD fl gs, .int 1] = some (.im (.tup (gs.map Gt.d))) := by
  show (L2.atI [D.tup (fl.map Fld.d), D.tup (gs.map Gt.d)] 1).map Vl.im = _
  rw [at1]
  rfl
end PD
namespace PD
variable [PD.TabL]
open PySem PySem.Spec PyProof.Rows L2
section
variable {prog : Program} {w : World} {A : Around} {E : Value → Shared → Prop} {s : Shared} {l : Addr} {xs : Array (Int × Tok)}
end
section
variable {prog : Program} {w : World} {A : Around} {E : Value → Shared → Prop} {s : Shared} {l : Addr} {its : List Value} {ns : List Int} {Q : Value → Shared → Prop}
end
section
variable {X : Cx}
end
end PD
namespace PD
variable [PD.TabL]
open PySem PySem.Spec PyProof.Rows L2
theorem i63_0 : in63 (0 : Int) = true := by decide
theorem i63_1 : in63 (1 : Int) = true := by decide
structure RowFacts (f : Fld) (w : Int) (n : Dn) (ca : Int) (r : Rw) : Prop where
  ra : r.ra = n.ra
  le : r.le = n.into f.nm
  ca : r.ca = ca
  all : w + r.ra + r.le + r.ca = r.rn + r.so + r.dr + r.st
  rn0 : 0 ≤ r.rn
  so0 : 0 ≤ r.so
  dr0 : 0 ≤ r.dr
  st0 : 0 ≤ r.st
  held : r.so + r.dr + r.st ≤ n.lvl f
  full : 0 < r.rn → r.so + r.dr + r.st = n.lvl f
  so1 : r.so ≤ f.so
  dr1 : r.dr ≤ n.su
  dry : r.st = 0 ∨ (r.so = f.so ∧ r.dr = n.su)
  ra0 : 0 ≤ r.ra
  le0 : 0 ≤ r.le
  ca0 : 0 ≤ r.ca
end PD
namespace PD
variable [PD.TabL]
open PySem PySem.Spec PyProof.Rows L2 PDZ
def SqM (K : PySem.W.Frag) (k : Bool) (H : Hp) (a : Addr) (xs : List V) : Prop := match k with
  | true => SqT K H a xs
  | false => SqL K H a xs
def ItM (k : Bool) (h : Heap) (it a : Addr) (i : Nat) : Prop := match k with
  | true => h.IsTupleIter it a i
  | false => h.IsListIter it a i
theorem ItM.keep {k : Bool} {h h' : Heap} {it a : Addr} {i : Nat} (x : ItM k h it a i) (kk : ∀ o, h.get? it = some o → h'.get? it = some o) : ItM k h' it a i := by
  cases k with
  | true => exact Heap.IsTupleIter.at x kk
  | false => exact Heap.IsListIter.at x kk
def mZipM (ms : M (List Vl)) : M (List D) := bd ms fun rs => bd (frzs rs) fun ds => match ds with
  | [x, y] => match seqD x, seqD y with
    | some a, some b => rt (zipD a b)
    | _, _ => fun _ => none
  | _ => fun _ => none
section
variable {K : PySem.W.Frag} {A : Anc}
theorem SqM.same {k : Bool} {H H' : Hp} {a : Addr} {xs : List V} (s : Same H H') (h : SqM K k H a xs) : SqM K k H' a xs := by
  cases k with
  | true => exact sameT s h
  | false => exact sameL s h
end
section
variable {g : G0} {c : Ct} {a b : Expr} {ms : M (List Vl)} {p pos tpos : Pos} {elts : List Expr} {kk : Nat}
end
def zipMO : List D → Option (List D)
  | [x, y] => match seqD x, seqD y with
    | some a, some b => some (zipD a b)
    | _, _ => none
  | _ => none
theorem W_mZipM {e : Env} {ms : M (List Vl)} {Q : List D → Env → Prop} : @W _ (mZipM ms) e ⟨Q⟩ = @W _ ms e ⟨fun rs e1 => @W _ (frzs rs) e1 ⟨fun ds e2 => @WO _ (zipMO ds) ⟨fun l => Q l e2⟩⟩⟩ := by
  unfold mZipM
  simp only [W_eq, WO_eq, bd]
  cases ms e with
  | none => rfl
  | some p =>
    dsimp only
    cases frzs p.1 p.2 with
    | none => rfl
    | some w =>
      dsimp only
      unfold zipMO
      match w.1 with
      | [] => rfl
      | [_] => rfl
      | [x, y] =>
        dsimp only
        cases seqD x with
        | none => rfl
        | some a =>
          cases seqD y with
          | none => rfl
          | some b => rfl
      | _ :: _ :: _ :: _ => rfl
theorem zipMO_lt (a b : List D) : zipMO [.lst a, .tup b] = some (zipD a b) := rfl
theorem zipMO_tl (a b : List D) : zipMO [.tup a, .lst b] = some (zipD a b) := rfl
theorem zipMO_ll (a b : List D) : zipMO [.lst a, .lst b] = some (zipD a b) := rfl
end PD
namespace PD
variable [PD.TabL]
open PySem PySem.Spec PyProof.Rows L2
end PD
namespace PD
variable [PD.TabL]
open PySem PySem.Spec PyProof.Rows L2
theorem Rw_to4 (r : Rw) : slD none (some 4) r.d = some (.im (.tup [.int r.ra, .int r.le, .int r.ca, .int r.rn])) := rfl
theorem Rw_from4 (r : Rw) : slD (some 4) none r.d = some (.im (.tup [.int r.so, .int r.dr, .int r.st])) := rfl
end PD
namespace PD
variable [PD.TabL]
open PySem PySem.Spec PyProof.Rows L2
/-- a slot that holds nothing that may change -/
def Cm (s : Sl) : Prop := s = .em ∨ ∃ d, s = .im d
theorem Cm.em : Cm .em := .inl rfl
theorem Cm.im {d : D} : Cm (.im d) := .inr ⟨d, rfl⟩
theorem Cm.frz {s : Sl} (h : Cm s) : Sl.frz s = s := by
  rcases h with rfl | ⟨d, rfl⟩ <;> rfl
theorem Cm.calm {s : Sl} (h : Cm s) : calmS (some s) = true := by
  rcases h with rfl | ⟨d, rfl⟩ <;> rfl
end PD
namespace PD
variable [PD.TabL]
open PySem PySem.Spec PyProof.Rows L2
structure WetN (n n' : Dn) : Prop where
  ra : n.ra ≤ n'.ra
  su : n'.su ≤ n.su
  into : ∀ x, n.into x ≤ n'.into x
  bs : n'.bs = n.bs
theorem WetN.refl (n : Dn) : WetN n n := ⟨Int.le_refl _, Int.le_refl _, fun _ => Int.le_refl _, rfl⟩
theorem WetN.trans {a b c : Dn} (h : WetN a b) (h' : WetN b c) : WetN a c := ⟨Int.le_trans h.ra h'.ra, Int.le_trans h'.su h.su, fun x => Int.le_trans (h.into x) (h'.into x), h'.bs.trans h.bs⟩
/-- stands, place by place -/
structure StLe (st st' : List Int) : Prop where
  len : st'.length = st.length
  le : ∀ (i : Nat) (w w' : Int), st[i]? = some w → st'[i]? = some w' → w ≤ w'
theorem StLe.refl (st : List Int) : StLe st st := ⟨rfl, fun i w w' h h' => by rw [h] at h'; cases h'; exact Int.le_refl _⟩
theorem StLe.trans {a b c : List Int} (h : StLe a b) (h' : StLe b c) : StLe a c := ⟨h'.len.trans h.len, fun i w w' h1 h2 => by
  obtain ⟨v, hv, _⟩ := at_of (l := b) (i := i) (by rw [h.len]; exact (List.getElem?_eq_some_iff.mp h1).1)
  exact Int.le_trans (h.le i w v h1 hv) (h'.le i v w' hv h2)⟩
end PD
namespace PD
variable [PD.TabL]
open PySem PySem.Spec PyProof.Rows L2
end PD
namespace PD
variable [PD.TabL]
open PySem PySem.Spec PyProof.Rows L2
structure Brk (f : Fld) (lv : Int) (n0 n1 : Dn) : Prop where
  ra : n1.ra = n0.ra
  su : n1.su = n0.su
  ls : n1.ls = n0.ls
  l0 : n0.lvl f = f.dy
  l1 : n1.lvl f = lv
  same : ∀ g : Fld, g.nm ≠ f.nm → n1.lvl g = n0.lvl g
end PD
namespace PD
variable [PD.TabL]
open PySem PySem.Spec PyProof.Rows L2
end PD
namespace PD
variable [PD.TabL]
open PySem PySem.Spec PyProof.Rows L2
end PD
namespace PD
variable [PD.TabL]
open PySem PySem.Spec PyProof.Rows L2
end PD
namespace PD
variable [PD.TabL]
open PySem PySem.Spec PyProof.Rows L2
theorem Rps.at' {K : PySem.W.Frag} {B : Hp} : ∀ {ds : List D} {vs : List V}, Rps K B ds vs → ∀ (j : Nat) (d : D), ds[j]? = some d → ∃ v, vs[j]? = some v ∧ Rp K B d v
  | _, _, .nil, j, v, h => by simp at h
  | _, _, .cons r rs, 0, v, h => by
    cases h
    exact ⟨_, rfl, r⟩
  | _, _, .cons r rs, j + 1, v, h => Rps.at' rs j v (by simpa using h)
end PD
namespace PD
variable [PD.TabL]
open PySem PySem.Spec PyProof.Rows L2
structure Lvs (f : Fld) (c : Int) (n0 n1 : Dn) : Prop where
  ra : n1.ra = n0.ra
  su : n1.su = n0.su
  ls : n1.ls = n0.ls
  lf : n0.lvl f = n1.lvl f + c
  lo : ∀ g : Fld, g.nm ≠ f.nm → n1.lvl g = n0.lvl g
end PD
namespace PD
variable [PD.TabL]
open PySem PySem.Spec PyProof.Rows L2
def qN : M (List (Key × D)) := rt []
def qJ : Vl → Vl → List (Key × D) → M (List (Key × D))
  | .im dk, .im dv, es => match keyD dk with
    | some k => rt ((k, dv) :: es)
    | none => fun _ => none
  | _, _, _ => fun _ => none
def qA (mk mv : M Vl) (ms : M (List (Key × D))) : M (List (Key × D)) := bd mk fun rk => bd mv fun rv => bd ms fun es => qJ rk rv es
def eDisp (ms : M (List (Key × D))) : M Vl := bd ms fun es => if decide (es.length ≤ 15) = true then rt (.fr (.dk (mergeD [] es))) else fun _ => none
section
variable (K : PySem.W.Frag) (A : Anc)
end
section
variable {K : PySem.W.Frag} {A : Anc}
end
section
variable (g : G0) (c : Ct)
end
section
variable {g : G0} {c : Ct} {pos : Pos}
end
section
variable {e : Env}
theorem W_qN {Q : List (Key × D) → Env → Prop} : @W _ qN e ⟨Q⟩ = Q [] e := W_eq
theorem W_eDisp {ms : M (List (Key × D))} {Q : Vl → Env → Prop} : @W _ (eDisp ms) e ⟨Q⟩ = @W _ ms e ⟨fun es e1 => @WC (decide (es.length ≤ 15)) ⟨Q (.fr (.dk (mergeD [] es))) e1⟩⟩ := by
  unfold eDisp
  simp only [W_eq, bd]
  cases ms e with
  | none => rfl
  | some p =>
    dsimp only
    by_cases h : p.1.length ≤ 15
    · simp [WC_true, h, rt]
    · simp [WC, h]
theorem W_qA {mk mv : M Vl} {ms : M (List (Key × D))} {Q : List (Key × D) → Env → Prop} : @W _ (qA mk mv ms) e ⟨Q⟩ = @W _ mk e ⟨fun rk e1 => @W _ mv e1 ⟨fun rv e2 => @W _ ms e2 ⟨fun es e3 => @W _ (qJ rk rv es) e3 ⟨Q⟩⟩⟩⟩ := by
  unfold qA
  simp only [W_eq, bd]
  cases mk e with
  | none => rfl
  | some p =>
    dsimp only
    cases mv p.2 with
    | none => rfl
    | some q =>
      dsimp only
      cases ms q.2 <;> rfl
theorem W_qJs {x : Str} {d : D} {es : List (Key × D)} {Q : List (Key × D) → Env → Prop} : @W _ (qJ (.im (.str x)) (.im d) es) e ⟨Q⟩ = Q ((.inr x, d) :: es) e := W_eq
theorem W_qJi {i : Int} {d : D} {es : List (Key × D)} {Q : List (Key × D) → Env → Prop} : @W _ (qJ (.im (.int i)) (.im d) es) e ⟨Q⟩ = Q ((.inl i, d) :: es) e := W_eq
end
end PD
namespace PD
variable [PD.TabL]
open PySem PySem.Spec PyProof.Rows L2
section
variable {prog : Program} {w : World} {A : Around} {E : Value → Shared → Prop} {s : Shared} {l : Addr} {o : Obj} {its : Array Value} {n : Nat}
end
def mulTD : List D → Option Vl
  | [.tup xs, .int k] => if k = 1 then some (.im (.tup xs)) else if k = 0 then some (.im (.tup [])) else none
  | [.tp xs, .int k] => if k = 1 then some (.im (.tp xs)) else if k = 0 then some (.im (.tp [])) else none
  | _ => none
end PD
namespace PD
variable [PD.TabL]
open PySem PySem.Spec PyProof.Rows L2
def strOf : Value → Str
  | .str x _ => x
  | _ => Str.empty
structure SetS (P : Program) (w : World) (h : Heap) (a : Addr) (L : List Str) : Prop where
  ex : ∃ o es ep t, h.get? a = some o ∧ o.ExactSet ∧ o.data = Data.set es ep t ∧ ElemsOf (strKind P w) es.toList ∧ (es.toList.map fun e => strOf e.2).Perm L ∧ es.size < scanBound ∧ t.fits es.size = true ∧ Ris t.place.toList ∧ (w.params.followText "set-order" = true ∨ t.led = true)
  nd : L.Nodup
theorem is_str {x : Str} {v : Value} (h : Value.isStrOf x v = true) : strOf v = x := by
  cases v with
  | str y t =>
    have h : (y == x) = true := h
    exact eq_of_beq h
  | _ => cases h
theorem find_str {P : Program} {w : World} {x : Str} : ∀ {es : List (Int × Value)}, ElemsOf (strKind P w) es → ((es.findIdx? fun e => (strKind P w).is x e.2) = none ↔ x ∉ es.map fun e => strOf e.2)
  | [], _ => by simp
  | e :: es, h => by
    have ih := find_str (x := x) (es := es) fun f hf => h f (List.mem_cons_of_mem _ hf)
    obtain ⟨⟨k, hk, _⟩, _⟩ := h e (List.mem_cons_self ..)
    have hs := is_str hk
    rw [List.findIdx?_eq_none_iff] at ih ⊢
    constructor
    · intro hall hm
      rw [List.map_cons] at hm
      rcases List.mem_cons.mp hm with he | hm
      · have := hall e (List.mem_cons_self ..)
        rw [he, hs] at this
        rw [hk] at this
        cases this
      · exact ih.mp (fun f hf => hall f (List.mem_cons_of_mem _ hf)) hm
    · intro hn f hf
      rcases List.mem_cons.mp hf with rfl | hf
      · cases hb : (strKind P w).is x f.2 with
        | false => rfl
        | true =>
          have := is_str hb
          exact absurd (by rw [List.map_cons, this]; exact List.mem_cons_self ..) hn
      · exact ih.mpr (fun hm => hn (by rw [List.map_cons]; exact List.mem_cons_of_mem _ hm)) f hf
theorem put_get {h : Heap} {a : Addr} {o : Obj} {es : Array (Int × Value)} {ep : Nat} {t : SetTable} (ho : h.get? a = some o) (hx : o.ExactSet) (hd : o.data = Data.set es ep t) (es1 : Array (Int × Value)) (t2 : SetTable) :
    ∃ o', (h.update a (Obj.putSet es1 t2)).get? a = some o' ∧ o'.ExactSet ∧ o'.data = Data.set es1 (ep + 1) t2 := by
  obtain ⟨c, dd, da, sl⟩ := o
  simp only at hd
  subst hd
  refine ⟨_, Heap.get?_update_self _ ho rfl, hx, rfl⟩
theorem sets_tail {P : Program} {w : World} {A : Around} {E : Value → Shared → Prop} {s : Shared} {a : Addr} {g : Bool → Sem Unit} (hg : ∀ (b : Bool) (s₁ : Shared) (Q' : Unit → Shared → Prop), Q' () s₁ → wpAny (model P w) A (g b) Q' E s₁)
    {o : Obj} {es : Array (Int × Value)} {ep : Nat} {t : SetTable} (ho : s.heap.get? a = some o) (hx : o.ExactSet) (hd : o.data = Data.set es ep t) {es1 : Array (Int × Value)} {t2 : SetTable} {L' : List Str}
    (he : ElemsOf (strKind P w) es1.toList) (hp : (es1.toList.map fun e => strOf e.2).Perm L') (hz : es1.size < scanBound) (hf : t2.fits es1.size = true) (hr : Ris t2.place.toList) (hl : w.params.followText "set-order" = true ∨ t2.led = true) (nd : L'.Nodup) {wd : Bool} {R : Option Bool → Shared → Prop}
    (q : ∀ h' : Heap, Heap.SameBut a s.heap h' → SetS P w h' a L' → R (some true) { s with heap := h' }) :
    wpAny (model P w) A (do
      storeSet a es1 t2
      if (!wd && t2.tooFull) = true then do
        g (relayAll t2 es1 (SetTable.grown es1.size)).2.2
        storeSet a (relayAll t2 es1 (SetTable.grown es1.size)).1 (relayAll t2 es1 (SetTable.grown es1.size)).2.1
        pure (some true)
      else pure (some true)) R E s := by
  have sb : scanBound = 4096 := rfl
  have sl : sizeLine = 16777216 := rfl
  obtain ⟨o1, ho1, hx1, hd1⟩ := put_get ho hx hd es1 t2
  have s1 := Heap.SameBut.update s.heap a (Obj.putSet es1 t2)
  refine wpAny_bind (wpAny_storeSet_of ho hd ?_ (by omega))
  by_cases hc : (!wd && t2.tooFull) = true
  · rw [if_pos hc]
    refine wpAny_bind (hg _ _ _ ?_)
    have r1 := relayAll_ris t2 es1 (SetTable.grown es1.size)
    have r2 := relayAll_fits t2 es1 (SetTable.grown es1.size)
    have r3 := relayAll_perm t2 es1 (SetTable.grown es1.size)
    have r4 := relayAll_led t2 es1 (SetTable.grown es1.size)
    generalize relayAll t2 es1 (SetTable.grown es1.size) = R2 at *
    obtain ⟨es2, t3, gv⟩ := R2
    dsimp only at *
    have hz2 : es2.size = es1.size := by
      have := r3.length_eq
      simpa using this
    obtain ⟨o2, ho2, hx2, hd2⟩ := put_get ho1 hx1 hd1 es2 t3
    have s2 := Heap.SameBut.update (s.heap.update a (Obj.putSet es1 t2)) a (Obj.putSet es2 t3)
    refine wpAny_bind (wpAny_storeSet_of ho1 hd1 ?_ (by omega))
    refine wpAny_pure (q _ (s1.trans s2) ⟨⟨o2, es2, _, t3, ho2, hx2, hd2, fun e h => he e (r3.mem_iff.mp h), (r3.map _).trans hp, by omega, r2, r1, ?_⟩, nd⟩)
    rcases hl with h | h
    · exact .inl h
    · exact .inr (by rw [r4]; exact h)
  · rw [if_neg hc]
    exact wpAny_pure (q _ s1 ⟨⟨o1, es1, _, t2, ho1, hx1, hd1, he, hp, hz, hf, hr, hl⟩, nd⟩)
theorem sets_add {P : Program} {w : World} {A : Around} {E : Value → Shared → Prop} {s : Shared} {a : Addr} {L : List Str} {x : Str} {tk : Tok} {Q : Bool → Shared → Prop} (hS : SetS P w s.heap a L) (hn : L.length + 1 < scanBound)
    (q1 : x ∈ L → Q false s) (q2 : x ∉ L → ∀ h' : Heap, Heap.SameBut a s.heap h' → SetS P w h' a (L ++ [x]) → Q true { s with heap := h' }) : wpAny (model P w) A (setAddHashed a (.str x tk) (hashStr w x)) Q E s := by
  obtain ⟨⟨o, es, ep, t, ho, hx, hd, he, hp, hz, hf, hr, hl⟩, nd⟩ := hS
  refine wpAny_holding ?_
  show wpAny (model P w) A (setAddHashedIn a (.str x tk) (hashStr w x) (99999 + 1)) Q E s
  unfold setAddHashedIn
  refine wpAny_bind (wpAny_setState_of ho hd hf ?_)
  have hb : byScan (.str x tk) es = true := by
    unfold byScan
    rw [Bool.and_eq_true, Bool.and_eq_true]
    refine ⟨⟨rfl, decide_eq_true hz⟩, ?_⟩
    rw [← Array.all_toList, List.all_eq_true]
    exact fun e hm => (he e hm).2
  dsimp only
  rw [if_pos hb]
  refine wpAny_bind ?_
  unfold setAddByScan
  refine wpAny_bind (wpAny_rule ?_)
  refine wpAny_bind ?_
  have hk : (strKind P w).is x (.str x tk) = true := by
    show (x == x) = true
    exact beq_self_eq_true x
  have hh : hashStr w x = (strKind P w).hash x := rfl
  rw [hh]
  refine wpAny_setScan_of hk ho hd hf he ?_
  have hfs := find_str (x := x) he
  have hmem : x ∈ (es.toList.map fun e => strOf e.2) ↔ x ∈ L := hp.mem_iff
  cases hfi : (es.toList.findIdx? fun e => (strKind P w).is x e.2) with
  | some j =>
    have hxl : x ∈ L := by
      rw [← hmem]
      cases Classical.em (x ∈ es.toList.map fun e => strOf e.2) with
      | inl h => exact h
      | inr h =>
        rw [hfs.mpr h] at hfi
        cases hfi
    dsimp only
    exact wpAny_pure (wpAny_pure (q1 hxl))
  | none =>
    have hxl : x ∉ L := fun h => (hfs.mp hfi) (hmem.mpr h)
    dsimp only
    have g1 := layNew_fits t es ((strKind P w).hash x) (.str x tk)
    have g2 := layNew_ris t es ((strKind P w).hash x) (.str x tk) hr
    have g3 := layNew_perm t es ((strKind P w).hash x) (.str x tk)
    have g4 := layNew_led t es ((strKind P w).hash x) (.str x tk)
    generalize layNew t es ((strKind P w).hash x) (.str x tk) = R at *
    obtain ⟨es', t', wd, gave⟩ := R
    dsimp only at *
    have he' : ElemsOf (strKind P w) es'.toList := fun e hm => by
      have hm := g3.mem_iff.mp hm
      rw [Array.toList_push] at hm
      rcases List.mem_append.mp hm with hm | hm
      · exact he e hm
      · rw [List.mem_singleton.mp hm]
        exact ⟨⟨x, hk, rfl⟩, rfl⟩
    have hp' : (es'.toList.map fun e => strOf e.2).Perm (L ++ [x]) := by
      refine (g3.map _).trans ?_
      rw [Array.toList_push, List.map_append]
      exact hp.append_right _
    have hz' : es'.size < scanBound := by
      have h1 := g3.length_eq
      have h2 := hp.length_eq
      simp at h1 h2
      omega
    have nd' : (L ++ [x]).Nodup := by
      rw [List.nodup_append]
      exact ⟨nd, by simp, fun b hb c hc e => hxl (by rw [List.mem_singleton.mp hc] at e; rwa [e] at hb)⟩
    have hl' : w.params.followText "set-order" = true ∨ t'.led = true := by
      rcases hl with h | h
      · exact .inl h
      · exact .inr (by rw [g4]; exact h)
    have hv : hashByValue 8 (Value.str x tk) = pure false := by
      show hashByValue (7 + 1) (Value.str x tk) = pure false
      unfold hashByValue
      rfl
    rw [hv]
    refine wpAny_bind ?_
    cases gave
    all_goals
      first
      | refine wpAny_pure ?_
      | refine wpAny_rule ?_
      by_cases hpl : t'.plain = true
      · rw [if_pos hpl]
        refine wpAny_bind (wpAny_pure ?_)
        rw [if_neg Bool.false_ne_true]
        refine sets_tail (t2 := { t' with plain := false }) (fun b s₁ Q' h => ?_) ho hx hd he' hp' hz' g1 g2 hl' nd' fun h' sb hS' => ?_
        · cases b
          all_goals first | exact wpAny_pure h | exact wpAny_rule h
        · exact wpAny_pure (q2 hxl h' sb hS')
      · rw [if_neg hpl]
        refine wpAny_bind (wpAny_pure ?_)
        rw [if_pos rfl]
        refine sets_tail (fun b s₁ Q' h => ?_) ho hx hd he' hp' hz' g1 g2 hl' nd' fun h' sb hS' => ?_
        · cases b
          all_goals first | exact wpAny_pure h | exact wpAny_rule h
        · exact wpAny_pure (q2 hxl h' sb hS')
end PD
namespace PD
variable [PD.TabL]
open PySem PySem.Spec PyProof.Rows L2
theorem SetS.at' {P : Program} {w : World} {h h' : Heap} {a : Addr} {L : List Str} (hS : SetS P w h a L) (hk : ∀ o, h.get? a = some o → h'.get? a = some o) : SetS P w h' a L := by
  obtain ⟨⟨o, es, ep, t, ho, r⟩, nd⟩ := hS
  exact ⟨⟨o, es, ep, t, hk o ho, r⟩, nd⟩
theorem moved_cons {S : Addr} {wr : List Addr} {G : Array GenState → Array GenState → Prop} {s s' : Shared} (m : Moved wr G s s') : Moved (S :: wr) G s s' :=
  ⟨fun b o hb ho => m.heap b o (fun h => hb (List.mem_cons_of_mem _ h)) ho, m.gens, m.drawn, m.os, m.toks⟩
theorem under_loop (A : Around) (args : Args) : A.under (Code.builtin "set.update.loop" args) = A.in1 := Around.under_plain (by first | rfl | (unfold Code.weight; rw [F.plain_set_update_loop]; rfl) | simp [Code.weight, F.plain_set_update_loop]) (by first | rfl | simp [Code.cUnits, F.plain_set_update_loop])
theorem set_update_strs {P : Program} {w : World} {A : Around} {I : Addr} {fp wr : List Addr} {G : Array GenState → Array GenState → Prop} {n : Nat} {Pv : Nat → Value → Prop} {St : Nat → Shared → Prop} {R : Result → Shared → Prop}
    (W : WalksS P w A.in1 I fp wr G n Pv St) (S : Addr) (hS : S ∉ fp) (xs : List Str) (hn : n = xs.length) (hb : xs.length + 1 < scanBound) (hp : ∀ (i : Nat) (v : Value), Pv i v → ∃ x t, xs[i]? = some x ∧ v = Value.str x t) :
    ∀ (k i : Nat) (s : Shared), n - i = k → i ≤ n → St i s → (∃ L, SetS P w s.heap S L ∧ (∀ y, y ∈ L ↔ y ∈ xs.take i) ∧ L.length ≤ i) →
      (∀ (s' : Shared) (L : List Str), Moved (S :: wr) G s s' → SetS P w s'.heap S L → (∀ y, y ∈ L ↔ y ∈ xs) → R (Except.ok (Flow.ret Value.none)) s') →
      codeAny (model P w) A (Code.builtin "set.update.loop" { pos := [Value.ref S, Value.ref I] }) R s
  | 0, i, s, hk, hi, st, ⟨L, hL, hm, hll⟩, q => by
    have hin : i = n := by omega
    subst hin
    refine codeAny_builtin F.entry_set_update_loop ?_
    rw [under_loop]
    unfold Builtin.«set.update.loop»
    dsimp only
    refine wpAny_bind (W.done s _ _ st fun s' mv => ?_)
    refine wpAny_pure (q s' L (moved_cons mv) (hL.at' fun o ho => mv.heap S o (fun h => hS (W.sub S h)) ho) fun y => ?_)
    rw [hm, hn, List.take_length]
  | k + 1, i, s, hk, hi, st, ⟨L, hL, hm, hll⟩, q => by
    refine codeAny_builtin F.entry_set_update_loop ?_
    rw [under_loop]
    unfold Builtin.«set.update.loop»
    dsimp only
    refine wpAny_bind (W.item i s _ _ (by omega) st fun v s1 pv st1 mv => ?_)
    obtain ⟨x, t, hx, rfl⟩ := hp i v pv
    have hL1 := hL.at' (h' := s1.heap) fun o ho => mv.heap S o (fun h => hS (W.sub S h)) ho
    have hxi : xs.take (i + 1) = xs.take i ++ [x] := take_snoc hx
    have ml := moved_cons (S := S) mv
    dsimp only
    refine wpAny_bind (wpAny_holding ?_)
    unfold setAdd
    refine wpAny_bind ((strKind P w).pyHash (k := x) (v := .str x t) (by show (x == x) = true; exact beq_self_eq_true x) ?_)
    refine sets_add (s := { s1 with toks := s1.toks + 1 }) hL1 (by omega) (fun hxl => ?_) (fun hxl h' sb hS' => ?_)
    · refine wpAny_pure ⟨Code.quiet_builtin _ (by first | exact plainId_quiet F.plain_set_update_loop | decide +kernel), ?_⟩
      refine set_update_strs W S hS xs hn hb hp k (i + 1) _ (by omega) (by omega) (W.frame (i + 1) s1 s1.heap (s1.toks + 1) st1 (Nat.le_succ _) fun b _ o ho => ho) ⟨L, hL1, fun y => ?_, by omega⟩ fun s' L' mv' h1 h2 => q s' L' ?_ h1 h2
      · rw [hxi, List.mem_append, ← hm]
        constructor
        · exact .inl
        · rintro (h | h)
          · exact h
          · rw [List.mem_singleton.mp h]
            exact hxl
      · exact ⟨fun b o hb' ho => mv'.heap b o hb' (ml.heap b o hb' ho), W.gtrans _ _ _ ml.gens mv'.gens, mv'.drawn.trans ml.drawn, mv'.os.trans ml.os, Nat.le_trans ml.toks (Nat.le_trans (Nat.le_succ _) mv'.toks)⟩
    · refine wpAny_pure ⟨Code.quiet_builtin _ (by first | exact plainId_quiet F.plain_set_update_loop | decide +kernel), ?_⟩
      have keep : ∀ b, b ≠ S → ∀ o, s1.heap.get? b = some o → h'.get? b = some o := fun b hb' o ho => by rw [sb.2 b hb']; exact ho
      refine set_update_strs W S hS xs hn hb hp k (i + 1) _ (by omega) (by omega) (W.frame (i + 1) s1 h' (s1.toks + 1) st1 (Nat.le_succ _) fun b hb' o ho => keep b (fun e => hS (e ▸ hb')) o ho) ⟨L ++ [x], hS', fun y => ?_, by rw [List.length_append, List.length_singleton]; omega⟩ fun s' L' mv' h1 h2 => q s' L' ?_ h1 h2
      · rw [hxi, List.mem_append, List.mem_append, ← hm]
      · exact ⟨fun b o hb' ho => mv'.heap b o hb' (keep b (fun e => hb' (e ▸ List.mem_cons_self ..)) o (ml.heap b o hb' ho)), W.gtrans _ _ _ ml.gens mv'.gens, mv'.drawn.trans ml.drawn, mv'.os.trans ml.os, Nat.le_trans ml.toks (Nat.le_trans (Nat.le_succ _) mv'.toks)⟩
end PD
namespace PD
variable [PD.TabL]
open PySem PySem.Spec PyProof.Rows L2
def newS (led : Bool) : Obj := { cls := Value.type "set", data := Data.set #[] 0 (SetTable.fresh 0 0 led) }
theorem sets_new {P : Program} {w : World} {h : Heap} {S : Addr} {led : Bool} (ho : h.get? S = some (newS led)) (hl : w.params.followText "set-order" = true ∨ led = true) : SetS P w h S [] :=
  ⟨⟨newS led, #[], 0, SetTable.fresh 0 0 led, ho, ⟨rfl, rfl, rfl⟩, rfl, (fun e he => by simp at he), by simp, by decide, by rfl, List.Pairwise.nil, hl⟩, List.nodup_nil⟩
theorem set_init {P : Program} {w : World} {A : Around} {E : Value → Shared → Prop} {s : Shared} {S l : Addr} {items : Array Value} {xs : List Str} {led : Bool} {Q : PySem.Fin → Shared → Prop} (hh : A.handled = none) (ho : s.heap.get? S = some (newS led)) (hled : w.params.followText "set-order" = true ∨ led = true) (hl : s.heap.IsList l items) (hb : xs.length + 1 < scanBound) (hn : items.size = xs.length)
    (hi : ∀ (i : Nat) (v : Value), items[i]? = some v → ∃ x t, xs[i]? = some x ∧ v = Value.str x t)
    (q : ∀ (s' : Shared) (L : List Str), (∀ b o, b ≠ S → s.heap.get? b = some o → s'.heap.get? b = some o) → s'.gens = s.gens → s'.os = s.os → s'.drawn = s.drawn → SetS P w s'.heap S L → (∀ y, y ∈ L ↔ y ∈ xs) → Q (Fin.done (Flow.ret Value.none)) s') :
    wpAny (model P w) A (Builtin.«set.__init__» { pos := [Value.ref S, Value.ref l] }) Q E s := by
  obtain ⟨ol, hol, hcl, hrest⟩ := id hl
  have hS := sets_new (P := P) ho hled
  unfold Builtin.«set.__init__»
  dsimp only
  refine wpAny_bind ?_
  have e1 : noKeywords "set" { pos := [Value.ref S, Value.ref l] } = pure () := rfl
  rw [e1]
  refine wpAny_pure ?_
  refine wpAny_bind ?_
  unfold typeNameOfCut shownTypeOf
  refine wpAny_bind (wpAny_bind (wpAny_typeOf (T := "set") ⟨newS led, ho, rfl⟩ ?_))
  rw [if_neg (by decide +kernel)]
  refine wpAny_pure ?_
  refine wpAny_pure ?_
  refine wpAny_bind ?_
  have e2 : ∀ nm : String, checkCount nm 0 1 [Value.ref l].length = pure () := fun _ => rfl
  rw [e2]
  refine wpAny_pure ?_
  refine wpAny_bind (wpAny_pure ?_)
  refine wpAny_bind ?_
  unfold setUsed
  refine wpAny_bind (wpAny_setState_of (ep := 0) ho rfl (by rfl) ?_)
  refine wpAny_pure ?_
  have e3 : ((SetTable.fresh 0 0 led).fill != 0) = false := by rfl
  dsimp only
  rw [e3, if_neg Bool.false_ne_true]
  refine wpAny_bind ?_
  unfold Builtin.Frozenset.updateFrom
  refine wpAny_bind ?_
  unfold Builtin.Frozenset.isAnySet
  refine wpAny_bind (wpAny_isInstance (T := "list") ⟨ol, hol, hcl⟩ F.sub_list_set ?_)
  refine wpAny_isInstance (T := "list") ⟨ol, hol, hcl⟩ F.sub_list_frozenset ?_
  rw [if_neg Bool.false_ne_true]
  refine wpAny_bind (wpAny_typeOf (T := "list") ⟨ol, hol, hcl⟩ ?_)
  rw [if_neg (by decide +kernel)]
  refine wpAny_bind (wpAny_pyIter_list hl ?_)
  have hSl : S ≠ l := fun e => by
    rw [← e, ho] at hol
    cases hol
    have : (Value.type "set" == Value.type "list") = false := by decide +kernel
    have hcl : Value.type "set" = Value.type "list" := hcl
    rw [hcl] at this
    simp at this
  have hSI : S ≠ s.heap.objs.size := fun e => by
    have h := Heap.lt_size ho
    rw [← e] at h
    exact Nat.lt_irrefl _ h
  have hlI : l ≠ s.heap.objs.size := fun e => by
    have h := Heap.lt_size hol
    rw [← e] at h
    exact Nat.lt_irrefl _ h
  have keep : ∀ b o, s.heap.get? b = some o → (s.heap.push { cls := Value.type "list_iterator", data := Data.fields #[Value.ref l, Value.int 0 0] }).get? b = some o := fun b o h => Heap.get?_push_of_some _ h
  refine wpAny_bind (wpAny_runValue ?_)
  have W := (Walks.list (prog := P) (w := w) (A := A.in1) hh s.heap.objs.size l hlI items).toS
  refine set_update_strs W S (by
    intro h
    rcases List.mem_cons.mp h with h | h
    · exact hSI h
    · exact hSl (List.mem_singleton.mp h)) xs hn hb (fun i v h => hi i v h) items.size 0 _ (by omega) (by omega) ⟨?_, ?_⟩ ⟨[], hS.at' (fun o h => keep S o h), by simp, Nat.le_refl 0⟩ fun s' L mv h1 h2 => ?_
  · exact ⟨_, Heap.get?_push_size _ rfl, rfl, rfl⟩
  · exact ⟨ol, keep l ol hol, hcl, hrest⟩
  · refine wpAny_pure ?_
    refine wpAny_pure (q s' L (fun b o hb' h => mv.heap b o ?_ (keep b o h)) mv.gens mv.os mv.drawn h1 h2)
    intro hm
    rcases List.mem_cons.mp hm with hm | hm
    · exact hb' hm
    · have h3 := Heap.lt_size h
      rw [List.mem_singleton.mp hm] at h3
      exact Nat.lt_irrefl _ h3
end PD
namespace PD
variable [PD.TabL]
open PySem PySem.Spec PyProof.Rows L2
theorem call_set_strs {P : Program} {w : World} {A : Around} {E : Value → Shared → Prop} {s : Shared} {l : Addr} {items : Array Value} {xs : List Str} {Q : Value → Shared → Prop} (hh : A.handled = none) (hl : s.heap.IsList l items) (hb : xs.length + 1 < scanBound) (hn : items.size = xs.length)
    (hi : ∀ (i : Nat) (v : Value), items[i]? = some v → ∃ x t, xs[i]? = some x ∧ v = Value.str x t)
    (q : ∀ (s' : Shared) (L : List Str), (∀ b o, s.heap.get? b = some o → s'.heap.get? b = some o) → s'.gens = s.gens → s'.os = s.os → s'.drawn = s.drawn → SetS P w s'.heap s.heap.objs.size L → (∀ y, y ∈ L ↔ y ∈ xs) → Q (.ref s.heap.objs.size) s') :
    wpAny (model P w) A (call (.type "set") [.ref l]) Q E s := by
  obtain ⟨c, tl, hmro⟩ := PySem.F.called_set.mro
  have hmade := PySem.F.called_set.made
  have hsub := PySem.F.called_set.sub
  refine wpAny_call (codeAny_of_tree ?_)
  show wpAny _ _ (callAny (.type "set") _) _ _ _
  refine wpAny_pure ⟨Code.quiet_builtin _ (by decide +kernel), codeAny_builtin PySem.F.entry_type_call ?_⟩
  rw [Around.under_plain (weight_type_call_type "set" [.ref l] []) rfl]
  have h1 := PySem.F.called_set.notType
  have h2 := PySem.F.called_set.canCreate
  have hct := PySem.F.typeCall_set_1 (.ref l)
  repeat (any_goals (first | assumption | wp_step))
  refine codeAny_mono (code_set_led1 (.ref l) (E := E) (Q₁ := fun obj s₁ => obj = .ref s.heap.objs.size ∧ s₁ = { s with heap := s.heap.push (newS (!w.params.followText "set-order")) }) ⟨rfl, rfl⟩) fun r s₁ hr => ?_
  cases r with
  | error e => exact hr
  | ok fl =>
    cases fl with
    | ret obj =>
      obtain ⟨rfl, rfl⟩ := hr
      have hS : (s.heap.push (newS (!w.params.followText "set-order"))).get? s.heap.objs.size = some (newS (!w.params.followText "set-order")) := Heap.get?_push_size _ rfl
      have hT : Shared.TypeIs { s with heap := s.heap.push (newS (!w.params.followText "set-order")) } (.ref s.heap.objs.size) "set" := ⟨_, hS, rfl⟩
      have hli := PySem.F.called_set.init.lookup
      have hbi := PySem.F.called_set.init.bind (.ref s.heap.objs.size)
      repeat (any_goals (first | assumption | wp_step))
      have hl1 : (s.heap.push (newS (!w.params.followText "set-order"))).IsList l items := hl.push _
      refine codeAny_mono (codeAny_call_builtin (R := wants (fun r s₂ => r = .none ∧ Q (.ref s.heap.objs.size) s₂) E) PySem.F.called_set.init.plain PySem.F.entry_set_init (check_set_init_1 hT ?_)) fun r₂ s₂ hr₂ => ?_
      · refine set_init (by simp [hh]) hS ?_ hl1 hb hn hi fun s' L k1 k2 k3 k4 k5 k6 => ⟨rfl, q s' L (fun b o e => k1 b o (Nat.ne_of_lt (Heap.lt_size e)) (Heap.get?_push_of_some _ e)) k2 k3 k4 k5 k6⟩
        cases w.params.followText "set-order"
        · exact .inr rfl
        · exact .inl rfl
      · cases r₂ with
        | error e => exact hr₂
        | ok fl₂ =>
          cases fl₂ with
          | ret r =>
            obtain ⟨rfl, hq⟩ := hr₂
            repeat (any_goals (first | assumption | wp_step))
          | _ => exact hr₂.elim
    | _ => exact hr.elim
end PD
namespace PD
variable [PD.TabL]
open PySem PySem.Spec PyProof.Rows L2
def SetH (P : Program) (w : World) (a : Addr) (L : List Str) : HO := .ext fun h => SetS P w h a L
def rSetS (P : Program) (w : World) (K : PySem.W.Frag) : List V → Hp → VK → Prop := fun xs H Q => ∃ (a : Addr) (ss : List Str), xs = [.ref a] ∧ SqL K H a (ss.map V.str) ∧ ss.length ≤ 1000 ∧
  ∀ p L, H p = none → L.Nodup → (∀ y, y ∈ L ↔ y ∈ ss) → Q (.ref p) (upd H p (SetH P w p L))
section
variable {X : Cx}
theorem vals_strs : ∀ {ss : List Str} {us : List Value}, Vals (ss.map V.str) us → ∀ (i : Nat) (v : Value), us[i]? = some v → ∃ x t, ss[i]? = some x ∧ v = Value.str x t
  | [], _, .nil, i, v, h => by simp at h
  | x :: ss, _, .cons r t, 0, v, h => by
    obtain ⟨k, e⟩ := r
    simp only [List.getElem?_cons_zero, Option.some.injEq] at h
    exact ⟨x, k, rfl, by rw [← h, e]⟩
  | x :: ss, _, .cons r t, i + 1, v, h => by
    simp only [List.getElem?_cons_succ] at h ⊢
    exact vals_strs t i v h
theorem vals_len : ∀ {vs : List V} {us : List Value}, Vals vs us → us.length = vs.length
  | _, _, .nil => rfl
  | _, _, .cons _ t => by rw [List.length_cons, List.length_cons, vals_len t]
theorem cr_setS (hc : X.calm = true) : CallR X (.type "set") (rSetS X.prog X.w X.K) := by
  intro pins s σ H xs us Q I r h
  obtain ⟨a, ss, rfl, hs, hz, q⟩ := h
  obtain ⟨its, rv, hl, _⟩ := I.list hs
  rw [Vals.ref1 r]
  have hlen := vals_len rv
  rw [List.length_map] at hlen
  refine call_set_strs (I.ok.hd hc) hl.isList (xs := ss) (by unfold scanBound; omega) (by simpa using hlen) (fun i v hv => vals_strs rv i v (by simpa using hv)) fun s' L k1 k2 k3 k4 k5 k6 => ?_
  obtain ⟨h', g', d', tk', os'⟩ := s'
  obtain rfl : g' = s.gens := k2
  obtain rfl : os' = s.os := k3
  obtain rfl : d' = s.drawn := k4
  exact ⟨.ref s.heap.objs.size, upd H s.heap.objs.size (SetH X.prog X.w s.heap.objs.size L), I.laid (t' := tk') k1 (Nat.le_refl _) ⟨k5, by obtain ⟨⟨o, _, _, _, ho, _⟩, _⟩ := k5; exact ⟨o, ho⟩, fun h1 h2 p k => SetS.at' p k⟩, rfl, q _ L (I.hok.fresh (Nat.le_refl _)) k5.nd k6⟩
end
end PD
namespace PD
variable [PD.TabL]
open PySem PySem.Spec PyProof.Rows L2
def sb (x : Str) : V × PyData := (V.str x, PyData.str x)
def rSortS (P : Program) (w : World) : List V → Hp → VK → Prop := fun xs H Q => ∃ (a : Addr) (L : List Str), xs = [.ref a] ∧ H a = some (SetH P w a L) ∧ L.length ≤ 1000 ∧
  ∀ (p : Addr) (M : List Str), H p = none → M.Perm L → Q (.ref p) (upd H p (.lst (((M.map sb).mergeSort (PySem.W.dataLe false (·.2))).map (·.1))))
section
variable {X : Cx}
theorem strs_elems {P : Program} {w : World} : ∀ {vs : List Value}, (∀ v ∈ vs, ∃ x t, v = Value.str x t) → vs.length = (vs.map strOf).length ∧ ∀ (h : Heap) (q : Addr),
    PySem.W.EachIs (fun (v : Value) (b : V × PyData) => RelV b.1 v) vs ((vs.map strOf).map sb) ∧ PySem.W.EachIs (fun (v : Value) (b : V × PyData) => ∃ as, Reads h v b.2 as ∧ q ∉ as) vs ((vs.map strOf).map sb)
  | [], _ => ⟨rfl, fun _ _ => ⟨.nil, .nil⟩⟩
  | v :: vs, h => by
    obtain ⟨h1, h2⟩ := strs_elems (P := P) (w := w) (vs := vs) fun u hu => h u (List.mem_cons_of_mem _ hu)
    refine ⟨by simp, fun hp q => ?_⟩
    obtain ⟨g1, g2⟩ := h2 hp q
    obtain ⟨x, t, rfl⟩ := h v (List.mem_cons_self ..)
    have r : RelV (V.str x) (Value.str x t) := ⟨t, rfl⟩
    exact ⟨.cons r g1, .cons ⟨[], flat_reads (x := V.str x) rfl r, by simp⟩ g2⟩
theorem cr_sortS {k : Nat} (hr : Room k X.A) (hc : X.calm = true) : CallR X (.builtin "sorted") (rSortS X.prog X.w) := by
  intro pins s σ H xs us Q I r h
  obtain ⟨a, L, rfl, ha, hz, q⟩ := h
  rw [Vals.ref1 r]
  have hS : SetS X.prog X.w s.heap a L := (I.hok a _ ha).1
  obtain ⟨⟨o, es, ep, t, ho, hex, hd, he, hp, hb, hf, hri, hle⟩, nd⟩ := hS
  refine Calls.call_function_entry kind_sorted plain_sorted entry_sorted (args_sorted1 _) ?_
  unfold Builtin.«sorted»
  refine wpAny_bind (m := checkCount "sorted" 1 1 _) (wpAny_pure ?_)
  refine wpAny_bind (collect_set (A := X.A.in1) (I.ok.hd hc) ⟨o, ho, hex.1, hd⟩ hf hb hri hle fun s1 vs k1 hsz g1 o1 pm => ?_)
  obtain ⟨h', g', d', tk, os'⟩ := s1
  obtain rfl : g' = s.gens := g1
  obtain rfl : os' = s.os := o1
  have hst : ∀ v ∈ vs, ∃ x t, v = Value.str x t := fun v hv => by
    obtain ⟨e, he1, q⟩ := List.mem_map.mp (pm.mem_iff.mp hv)
    obtain ⟨⟨x, hx, _⟩, _⟩ := he e he1
    rw [← q]
    generalize e.2 = u at hx ⊢
    cases u with
    | str y t => exact ⟨y, t, rfl⟩
    | _ => cases hx
  have pL : (vs.map strOf).Perm L := by
    have q := pm.map strOf
    rw [List.map_map] at q
    exact q.trans hp
  obtain ⟨hl1, hel⟩ := strs_elems (P := X.prog) (w := X.w) hst
  have hvl : vs.length = L.length := by rw [hl1, pL.length_eq]
  refine wpAny_bind (wpAny_newList ?_ (by rw [hvl, sizeLine_eq]; omega))
  have hob : (h'.push { cls := .type "list", data := .seq vs.toArray }).get? h'.objs.size = some (seqObj "list" vs.toArray 0) := Heap.get?_push_size _ rfl
  have ne0 : ∀ b o, h'.get? b = some o → b ≠ h'.objs.size := fun b o e => Nat.ne_of_lt (Heap.lt_size e)
  have ka : ∀ b o, h'.get? b = some o → (h'.push { cls := .type "list", data := .seq vs.toArray }).get? b = some o := fun b o e => Heap.get?_push_of_some _ e
  generalize hh2 : h'.push { cls := .type "list", data := .seq vs.toArray } = h2 at hob ka ⊢
  obtain ⟨e1, e2⟩ := hel h2 h'.objs.size
  have m2 : ((vs.map strOf).map sb).map (·.2) = (vs.map strOf).map PyData.str := by rw [List.map_map]; rfl
  have hg : wpAny (model X.prog X.w) X.A.in1 (call (.builtin "list.sort") [.ref h'.objs.size]) (fun _ s' => EP X pins σ Q (.ref h'.objs.size) s') X.xe { s with heap := h2, drawn := d', toks := tk } := by
    refine PySem.W.list_sort_data (s := { s with heap := h2, drawn := d', toks := tk }) (enc := fun b : V × PyData => b.2) (R := fun v b => RelV b.1 v) hob e1 e2 ?_ ?_ (by rw [List.length_map, ← hl1, hvl, sizeLine_eq]; omega) (fun b hb => ?_) fun out hlen ho2 => ?_
    · rw [m2]
      intro d hd d' hd'
      obtain ⟨x, _, rfl⟩ := List.mem_map.mp hd
      obtain ⟨y, _, rfl⟩ := List.mem_map.mp hd'
      rfl
    · rw [m2]
      refine .inr fun d hd => ?_
      obtain ⟨x, _, rfl⟩ := List.mem_map.mp hd
      simp
    · obtain ⟨x, _, rfl⟩ := List.mem_map.mp hb
      have := hr.un
      simp only [sb, PyData.depth]
      show X.A.units + 1 + 1 + _ < cLine
      omega
    · show EP X pins σ Q (.ref h'.objs.size) { s with heap := sortedHeap h2 h'.objs.size vs out.toArray, drawn := d', toks := tk }
      have kS : ∀ b o, s.heap.get? b = some o → (sortedHeap h2 h'.objs.size vs out.toArray).get? b = some o := fun b o e =>
        have e := k1 b o e
        (PyProof.Rows.sortedHeap_old (ne0 b o e) (Heap.lt_size (ka b o e))).trans (ka b o e)
      obtain ⟨eF, heF⟩ := PyProof.Rows.sortedHeap_at (vs := vs) (out := out.toArray) hob
      have hn : H h'.objs.size = none := I.hok.fresh hsz
      have lr : ((((vs.map strOf).map sb).mergeSort (PySem.W.dataLe false (·.2))).map (·.1)).length ≤ sizeLine := by
        rw [List.length_map, (List.mergeSort_perm _ _).length_eq, List.length_map, ← hl1, hvl, sizeLine_eq]
        omega
      have J : Inv X pins σ (upd H h'.objs.size (.lst ((((vs.map strOf).map sb).mergeSort (PySem.W.dataLe false (·.2))).map (·.1)))) { s with heap := sortedHeap h2 h'.objs.size vs out.toArray, gens := s.gens, drawn := d', toks := tk } :=
        I.call (ch := []) (Un.laid kS hsz hn) (I.hok.laid kS hsz ⟨lr, out, eF, vals_of_each ho2, heF⟩) I.bare (fun _ z => nomatch z)
      exact ⟨.ref h'.objs.size, _, J, rfl, q _ _ hn pL⟩
  refine wpAny_bind (wpAny_holding (wpAny_mono hg (fun _ s' x => ?_) fun _ _ e => e))
  exact wpAny_pure ⟨_, rfl, x⟩
end
end PD
namespace PD
variable [PD.TabL]
open PySem PySem.Spec PyProof.Rows L2
def ddS : List Str → List Str
  | [] => []
  | x :: r => if x ∈ r then ddS r else x :: ddS r
theorem ddS_mem {y : Str} : ∀ {l : List Str}, y ∈ ddS l ↔ y ∈ l
  | [] => Iff.rfl
  | x :: r => by
    have ih := ddS_mem (y := y) (l := r)
    unfold ddS
    split
    · rename_i h
      rw [ih, List.mem_cons]
      exact ⟨.inr, fun z => z.elim (fun e => by rw [e]; exact h) id⟩
    · rw [List.mem_cons, List.mem_cons, ih]
theorem ddS_nodup : ∀ l : List Str, (ddS l).Nodup
  | [] => List.Pairwise.nil
  | x :: r => by
    unfold ddS
    split
    · exact ddS_nodup r
    · rename_i h
      exact List.nodup_cons.mpr ⟨fun z => h (ddS_mem.mp z), ddS_nodup r⟩
theorem ddS_le : ∀ l : List Str, (ddS l).length ≤ l.length
  | [] => Nat.le_refl _
  | x :: r => by
    have := ddS_le r
    unfold ddS
    split
    · rw [List.length_cons]; omega
    · rw [List.length_cons, List.length_cons]; omega
def sortSetD : List D → Option Vl
  | [.lst ds] => match strsD ds with
    | some ss => if ss.length ≤ 1000 then some (.fr (.lst (sortL ((ddS ss).map D.str)))) else none
    | none => none
  | _ => none
theorem toks_str {x y : Str} (h : PySem.W.keyToks (D.str x).py = PySem.W.keyToks (D.str y).py) : x = y := by
  simp only [D.py, PySem.W.keyToks, List.cons.injEq, Sum.inr.injEq, Sum.inl.injEq, and_true] at h
  obtain ⟨x⟩ := x
  obtain ⟨y⟩ := y
  have : x = y := Array.ext' h
  rw [this]
theorem sortS_perm {a b : List Str} (p : a.Perm b) : sortL (a.map D.str) = sortL (b.map D.str) :=
  sortL_eq (p.map D.str) fun x hx y hy h => by
    obtain ⟨x, _, rfl⟩ := List.mem_map.mp hx
    obtain ⟨y, _, rfl⟩ := List.mem_map.mp hy
    rw [toks_str h]
section
variable {K : PySem.W.Frag} {A : Anc} {vs : L2.St} {env : Env}
theorem rps_strs {B : Hp} : ∀ {ss : List Str} {us : List V}, Rps K B (ss.map D.str) us → us = ss.map V.str ∧ ∀ x ∈ ss, Rp K B (.str x) (.str x)
  | [], _, .nil => ⟨rfl, fun _ h => nomatch h⟩
  | x :: ss, _, .cons r t => by
    obtain ⟨h1, h2⟩ := rps_strs t
    cases r with
    | str _ ok =>
      exact ⟨by rw [h1]; rfl, fun y hy => by
        rcases List.mem_cons.mp hy with rfl | hy
        · exact .str _ ok
        · exact h2 y hy⟩
theorem ps_sortSet {P : Program} {w : World} : PrS K (fun xs H Q => rSetS P w K xs H fun v H1 => rSortS P w [v] H1 Q) sortSetD := by
  intro A B H vs env xs ds res Q S rr e q
  unfold sortSetD at e
  split at e
  · rename_i ds0
    split at e
    · rename_i ss hss
      split at e
      · rename_i hz
        cases e
        obtain ⟨x, rfl, r1⟩ := pr1 rr
        obtain ⟨a, us, rfl, ha, ra⟩ := r1.lst S.same
        rw [strsD_map hss] at ra
        obtain ⟨rfl, ro⟩ := rps_strs ra
        refine ⟨a, ss, rfl, .of ha, hz, fun p L hp nd hm => ?_⟩
        have pL : L.Perm (ddS ss) := (List.perm_ext_iff_of_nodup nd (ddS_nodup ss)).mpr fun y => (hm y).trans ddS_mem.symm
        refine ⟨p, L, rfl, upd_same, ?_, fun p2 M hp2 pm => ?_⟩
        · rw [pL.length_eq]
          exact Nat.le_trans (ddS_le ss) hz
        · have S1 := S.laid hp (o := SetH P w p L)
          have pM := pm.trans pL
          generalize hzs : M.map (fun x => (V.str x, D.str x)) = zs
          have e0 : M.map sb = zs.map fun z => (z.1, z.2.py) := by rw [← hzs, List.map_map]; rfl
          have e1 : ((zs.map fun z => (z.1, z.2.py)).mergeSort (PySem.W.dataLe false (·.2))) = (zs.mergeSort (PySem.W.dataLe false fun z => z.2.py)).map fun z => (z.1, z.2.py) :=
            (List.map_mergeSort (f := fun z : V × D => (z.1, z.2.py)) (fun a _ b _ => rfl)).symm
          have e2 : sortL (zs.map (·.2)) = (zs.mergeSort (PySem.W.dataLe false fun z => z.2.py)).map (·.2) :=
            (List.map_mergeSort (f := fun z : V × D => z.2) (fun a _ b _ => rfl)).symm
          have e3 : zs.map (·.2) = M.map D.str := by rw [← hzs, List.map_map]; rfl
          rw [e0, e1, List.map_map]
          have hr : Rps K B (sortL ((ddS ss).map D.str)) ((zs.mergeSort (PySem.W.dataLe false fun z => z.2.py)).map (·.1)) := by
            rw [← sortS_perm pM, ← e3, e2]
            refine rps_of_zip fun z hz => ?_
            have := (List.mergeSort_perm _ _).mem_iff.mp hz
            rw [← hzs] at this
            obtain ⟨x, hx, rfl⟩ := List.mem_map.mp this
            exact ro x (ddS_mem.mp (pM.mem_iff.mp hx))
          exact q B _ _ (Same.refl _) (.lst S1 hp2 hr)
      · cases e
    · cases e
  · cases e
end
section
variable {g : G0} {c : Ct} {o : Expr} {m : M Vl} {p p2 pos pos2 : Pos}
theorem ee_sortSet (h : EE g c o m) (hg : GlC c "sorted") (hm : g.mg "sorted" = none) (hg2 : GlC c "set") (hm2 : g.mg "set" = none) (pl : Pl o) :
    EE g c (.Call (.Name "sorted" p) [.Call (.Name "set" p2) [o] [] pos2] [] pos) (eP sortSetD (cA m cN)) := by
  obtain ⟨t, h1, k1⟩ := h
  refine ⟨tCB (rSortS g.P g.w) (tCons (tCB (rSetS g.P g.w g.K) (tCons t tNil)) tNil), fun X hX => ?_, fun A => sx_prim (r := fun xs H Q => rSetS g.P g.w g.K xs H fun v H1 => rSortS g.P g.w [v] H1 Q) ps_sortSet (sa_cons (k1 A) sa_nil)⟩
  rw [← hX.eP, ← hX.ew, ← hX.eK]
  refine pe_callB (cr_sortS hX.room hX.calm) (gl_of hX hg) (by rw [hX.em]; exact hm) (by decide +kernel) (pa_cons (pe_callTy (cr_setS hX.calm) (gl_of hX hg2) (by rw [hX.em]; exact hm2) (by decide +kernel) (pa_cons (h1 X hX) pa_nil (pl [] X.env)) (by decide) (by decide) (pl [] X.env) rfl) pa_nil) (by decide) (by decide)
end
end PD
namespace PD
variable [PD.TabL]
open PySem PySem.Spec PyProof.Rows L2
end PD
namespace PD
variable [PD.TabL]
open PySem PySem.Spec PyProof.Rows L2
def splitD : List D → Option Vl
  | [.str a, .str b] => if (!(b.length == 0) && decide (a.length + 2 ≤ sizeLine) && (Txt.split a b).all PyData.strOk) = true then some (.fr (.lst ((Txt.split a b).map D.str))) else none
  | _ => none
theorem rps_okS {K : PySem.W.Frag} {B : Hp} : ∀ {ss : List Str}, (∀ x ∈ ss, PyData.strOk x = true) → Rps K B (ss.map D.str) (ss.map V.str)
  | [], _ => .nil
  | x :: ss, h => .cons (.str x (h x (List.mem_cons_self ..))) (rps_okS fun y hy => h y (List.mem_cons_of_mem _ hy))
theorem me_split {g : G0} : MeI g "str" "split" "str.split" splitD := ⟨F.plainAttrs_str, F.slot_str_split, F.type_str_split, _, fun c X hX => mt_split, fun A B H vs env xs ds res Q S rr e q => by
  unfold splitD at e
  split at e
  · rename_i x y
    split at e
    · rename_i h
      cases e
      simp only [Bool.and_eq_true] at h
      obtain ⟨⟨h1, h2⟩, h3⟩ := h
      obtain ⟨a, b, rfl, r1, r2⟩ := pr2 rr
      have e1 := r1.str.1
      have e2 := r2.str.1
      subst e1 e2
      exact ⟨x, y, rfl, rfl, by simpa using h1, of_decide_eq_true h2, fun p hp => q B _ _ (Same.refl _) (.lst S hp (rps_okS fun z hz => List.all_eq_true.mp h3 z hz))⟩
    · cases e
  · cases e⟩
end PD
namespace PD
variable [PD.TabL]
open PySem PySem.Spec PyProof.Rows L2
end PD
namespace PD
variable [PD.TabL]
open PySem PySem.Spec PyProof.Rows L2
section
variable {K : PySem.W.Frag} {A : Anc} {B H : Hp} {σ : L2.St} {env : Env}
end
def mDk (m : M Vl) : M (List D) := fun e => match m e with
  | some (.bo i, e1) => match e1[i]? with
    | some (.ow (.dk es)) => if (es.all fun x => keyOk x.1) = true then some (es.map fun x => kD x.1, e1.set i (.im (.kf es))) else none
    | some (.ow (.dt es)) => if (es.all fun x => x.1.all keyOk) = true then some (es.map fun x => ktD x.1, e1.set i (.im (.tf es))) else none
    | some (.im (.kf es)) => if (es.all fun x => keyOk x.1) = true then some (es.map fun x => kD x.1, e1) else none
    | some (.im (.tf es)) => if (es.all fun x => x.1.all keyOk) = true then some (es.map fun x => ktD x.1, e1) else none
    | _ => none
  | some (.im (.kf es), e1) => if (es.all fun x => keyOk x.1) = true then some (es.map fun x => kD x.1, e1) else none
  | some (.im (.tf es), e1) => if (es.all fun x => x.1.all keyOk) = true then some (es.map fun x => ktD x.1, e1) else none
  | _ => none
theorem W_mDk {e : Env} {m : M Vl} {Q : List D → Env → Prop} : @W _ (mDk m) e ⟨Q⟩ = @W _ m e ⟨fun r e1 => match r with
    | .bo i => @WO _ e1[i]? ⟨fun sl => match sl with
      | .ow (.dk es) => @WC (es.all fun x => keyOk x.1) ⟨@WO _ (setO e1 i (.im (.kf es))) ⟨fun e2 => Q (es.map fun x => kD x.1) e2⟩⟩
      | .ow (.dt es) => @WC (es.all fun x => x.1.all keyOk) ⟨@WO _ (setO e1 i (.im (.tf es))) ⟨fun e2 => Q (es.map fun x => ktD x.1) e2⟩⟩
      | .im (.kf es) => @WC (es.all fun x => keyOk x.1) ⟨Q (es.map fun x => kD x.1) e1⟩
      | .im (.tf es) => @WC (es.all fun x => x.1.all keyOk) ⟨Q (es.map fun x => ktD x.1) e1⟩
      | _ => False⟩
    | .im (.kf es) => @WC (es.all fun x => keyOk x.1) ⟨Q (es.map fun x => kD x.1) e1⟩
    | .im (.tf es) => @WC (es.all fun x => x.1.all keyOk) ⟨Q (es.map fun x => ktD x.1) e1⟩
    | _ => False⟩ := by
  have sO : ∀ {l : Env} {i : Nat} {sl x : Sl}, l[i]? = some sl → setO l i x = some (l.set i x) := fun {l i sl x} h => by
    rw [← setO_ok, if_pos (List.getElem?_eq_some_iff.mp h).1]
  unfold mDk
  simp only [W_eq]
  cases m e with
  | none => rfl
  | some p =>
    obtain ⟨r, e1⟩ := p
    cases r with
    | fr d => rfl
    | im d =>
      cases d <;> try rfl
      · rename_i es
        dsimp only
        generalize List.all _ _ = c
        cases c <;> simp [WC]
      · rename_i es
        dsimp only
        generalize List.all _ _ = c
        cases c <;> simp [WC]
    | bo i =>
      dsimp only
      rw [WO_eq]
      cases hs : e1[i]? with
      | none => rfl
      | some sl =>
        cases sl with
        | em => rfl
        | io j d => rfl
        | im d =>
          cases d <;> try rfl
          · dsimp only
            generalize List.all _ _ = c
            cases c <;> simp [WC]
          · dsimp only
            generalize List.all _ _ = c
            cases c <;> simp [WC]
        | ow d =>
          cases d <;> try rfl
          · dsimp only
            rw [sO hs, WO_some]
            generalize List.all _ _ = c
            cases c <;> simp [WC]
          · dsimp only
            rw [sO hs, WO_some]
            generalize List.all _ _ = c
            cases c <;> simp [WC]
end PD
namespace PD
variable [PD.TabL]
open PySem PySem.Spec PyProof.Rows L2
theorem nodup_subA {α : Type} [DecidableEq α] : ∀ {a b : List α}, a.Nodup → (∀ x ∈ a, x ∈ b) → a.length ≤ b.length
  | [], _, _, _ => Nat.zero_le _
  | x :: a, b, nd, h => by
    obtain ⟨h1, h2⟩ := List.nodup_cons.mp nd
    have hx := h x (List.mem_cons_self ..)
    have := nodup_subA (a := a) (b := b.erase x) h2 fun y hy => by
      have hne : y ≠ x := fun z => h1 (z ▸ hy)
      exact (List.mem_erase_of_ne hne).mpr (h y (List.mem_cons_of_mem _ hy))
    rw [List.length_erase_of_mem hx] at this
    have hp := List.length_pos_of_mem hx
    rw [List.length_cons]
    omega
def stem5 (x : Str) : Str := cutS x none (some 5)
def cand (x : Str) : List Str := x :: LT.map fun c => stem5 x ++ ⟨#[c]⟩
theorem cand_d (x : Str) : (cand x).map D.str = .str x :: LT.map fun c => .str (stem5 x ++ ⟨#[c]⟩) := by
  rw [cand, List.map_cons, List.map_map]
  rfl
theorem app_one_inj {s : Str} {c d : Nat} (h : s ++ (⟨#[c]⟩ : Str) = s ++ ⟨#[d]⟩) : c = d := by
  have h2 : (s ++ (⟨#[c]⟩ : Str)).cps.toList = (s ++ (⟨#[d]⟩ : Str)).cps.toList := by rw [h]
  have cl : ∀ x y : Str, (x ++ y).cps.toList = x.cps.toList ++ y.cps.toList := fun x y => Array.toList_append ..
  rw [cl, cl] at h2
  have h3 := List.append_cancel_left h2
  simpa using h3
theorem cand_free {found : List Str} (x : Str) (h : found.length < 26) : ∃ y r, (cand x).filter (fun y => !decide (y ∈ found)) = y :: r ∧ y ∈ cand x ∧ y ∉ found := by
  cases hf : (cand x).filter (fun y => !decide (y ∈ found)) with
  | nil =>
    exfalso
    have hall : ∀ y ∈ LT.map (fun c => stem5 x ++ (⟨#[c]⟩ : Str)), y ∈ found := fun y hy => by
      have := List.filter_eq_nil_iff.mp hf y (List.mem_cons_of_mem _ hy)
      simpa using this
    have nd : (LT.map (fun c => stem5 x ++ (⟨#[c]⟩ : Str))).Nodup := by
      have : ∀ l : List Nat, l.Nodup → (l.map (fun c => stem5 x ++ (⟨#[c]⟩ : Str))).Nodup := fun l => by
        induction l with
        | nil => exact fun _ => List.nodup_nil
        | cons c l ih =>
          intro hn
          obtain ⟨h1, h2⟩ := List.nodup_cons.mp hn
          rw [List.map_cons]
          refine List.nodup_cons.mpr ⟨fun hm => ?_, ih h2⟩
          obtain ⟨d, hd, e⟩ := List.mem_map.mp hm
          exact h1 (app_one_inj e ▸ hd)
      exact this LT LT_nodup
    have := nodup_subA nd hall
    rw [List.length_map, LT_len] at this
    omega
  | cons y r =>
    have hy : y ∈ (cand x).filter (fun y => !decide (y ∈ found)) := by rw [hf]; exact List.mem_cons_self ..
    obtain ⟨h1, h2⟩ := List.mem_filter.mp hy
    exact ⟨y, r, rfl, h1, by simpa using h2⟩
theorem cand_as {n : Nat} {x : Str} (h : As n x) (hn : 1 ≤ n) : ∀ y ∈ cand x, As (n + 1) y := fun y hy => by
  rcases List.mem_cons.mp hy with rfl | hy
  · exact h.mono (by omega)
  · obtain ⟨c, hc, rfl⟩ := List.mem_map.mp hy
    exact (h.cut none (some 5)).app (.one (LT_low c hc) (Nat.le_refl _))
end PD
namespace PD
variable [PD.TabL]
open PySem PySem.Spec PyProof.Rows L2
theorem sortSetD_strs {ss : List Str} (h : ss.length ≤ 1000) : sortSetD [.lst (ss.map D.str)] = some (.fr (.lst (sortL ((ddS ss).map D.str)))) := by
  show (match strsD (ss.map D.str) with | some ss => if ss.length ≤ 1000 then some (Vl.fr (.lst (sortL ((ddS ss).map D.str)))) else none | none => none) = _
  rw [strsD_strs]
  simp only
  rw [if_pos h]
structure Ln where
  d : Int
  g : Str
  a : Str
  b : Str
def Ln.D (l : Ln) : PD.D := .tup [.int l.d, .str l.g, .str l.a, .str l.b]
def rightG (g : Gt) (d : Int) : Str := (g.ri[(d % (g.ri.length : Int)).toNat]?).getD noS
def holdL (ls : List Ln) (r : Str) (d : Int) (g : Str) : Str := ls.foldl (fun h l => if l.d = d ∧ l.g = g then l.b else h) r
def holdG (g : Gt) (ls : List Ln) (d : Int) : Str := holdL ls (rightG g d) d g.nm
theorem holdL_snoc (ls : List Ln) (l : Ln) (r : Str) (d : Int) (g : Str) : holdL (ls ++ [l]) r d g = if l.d = d ∧ l.g = g then l.b else holdL ls r d g := by
  rw [holdL, List.foldl_append]
  rfl
theorem rightG_mem {g : Gt} {d : Int} (h : 1 ≤ g.ri.length) : rightG g d ∈ g.ri ∧ g.ri[(d % (g.ri.length : Int)).toNat]? = some (rightG g d) := by
  have h0 := Int.emod_nonneg d (show (g.ri.length : Int) ≠ 0 by omega)
  have h1 := Int.emod_lt_of_pos d (show (0 : Int) < (g.ri.length : Int) by omega)
  obtain ⟨x, hx, hm⟩ := at_of (l := g.ri) (i := (d % (g.ri.length : Int)).toNat) (by omega)
  unfold rightG
  rw [hx]
  exact ⟨hm, rfl⟩
theorem holdL_mem {P : Str → Prop} : ∀ {ls : List Ln} {r : Str} {d : Int} {g : Str}, P r → (∀ l ∈ ls, P l.b) → P (holdL ls r d g)
  | [], _, _, _, h, _ => h
  | l :: ls, r, d, g, h, hl => by
    show P (holdL ls (if l.d = d ∧ l.g = g then l.b else r) d g)
    refine holdL_mem ?_ fun x hx => hl x (List.mem_cons_of_mem _ hx)
    split
    · exact hl l (List.mem_cons_self ..)
    · exact h
end PD
namespace PD
variable [PD.TabL]
open PySem PySem.Spec PyProof.Rows L2
def tk (d : Int) (g : Str) : List Key := [.inl d, .inr g]
theorem tk_inj {d d' : Int} {g g' : Str} (h : tk d g = tk d' g') : d = d' ∧ g = g' := by
  simp only [tk, List.cons.injEq, Sum.inl.injEq, Sum.inr.injEq, and_true] at h
  exact h
theorem ix_dt (es : List (List Key × D)) (d : Int) (g : Str) : ixD [.dt es, .tup [.int d, .str g]] = (getK es (tk d g)).map Vl.im := rfl
theorem ix_tf (es : List (List Key × D)) (d : Int) (g : Str) : ixD [.tf es, .tup [.int d, .str g]] = (getK es (tk d g)).map Vl.im := rfl
theorem set_dt (es : List (List Key × D)) (d : Int) (g : Str) (v : D) : setDk (.dt es) (.tup [.int d, .str g]) v = if lessL es.length = true then some (.dt (putD es (tk d g) v)) else none := rfl
section
variable {κ : Type} [DecidableEq κ]
theorem putD_keys (es : List (κ × D)) (k : κ) (d : D) : (putD es k d).map (·.1) = if k ∈ es.map (·.1) then es.map (·.1) else es.map (·.1) ++ [k] := by
  unfold putD
  by_cases h : k ∈ es.map (·.1)
  · have h1 : (es.any fun e => decide (e.1 = k)) = true := by
      obtain ⟨e, he, rfl⟩ := List.mem_map.mp h
      exact List.any_eq_true.mpr ⟨e, he, by simp⟩
    rw [if_pos h1, if_pos h, List.map_map]
    refine List.map_congr_left fun e _ => ?_
    show (if e.1 = k then (e.1, d) else e).1 = e.1
    split <;> rfl
  · have h1 : ¬ (es.any fun e => decide (e.1 = k)) = true := fun z => by
      obtain ⟨e, he, e2⟩ := List.any_eq_true.mp z
      exact h (List.mem_map.mpr ⟨e, he, by simpa using e2⟩)
    rw [if_neg h1, if_neg h, List.map_append]
    rfl
theorem putD_nd {es : List (κ × D)} {k : κ} {d : D} (h : (es.map (·.1)).Nodup) : ((putD es k d).map (·.1)).Nodup := by
  rw [putD_keys]
  split
  · exact h
  · rename_i hk
    exact List.nodup_append.mpr ⟨h, by simp, fun x hx y hy e => hk (by rw [← List.mem_singleton.mp hy, ← e]; exact hx)⟩
theorem putD_memk {es : List (κ × D)} {k k' : κ} {d : D} : k' ∈ (putD es k d).map (·.1) ↔ k' ∈ es.map (·.1) ∨ k' = k := by
  rw [putD_keys]
  split
  · rename_i hk
    exact ⟨.inl, fun z => z.elim id fun e => e ▸ hk⟩
  · rw [List.mem_append, List.mem_singleton]
end
structure HeldC (gs : List Gt) (f : Gt → Int → Str) (cov : Gt → Int → Prop) (es : List (List Key × D)) : Prop where
  get : ∀ g ∈ gs, ∀ d : Int, cov g d → getK es (tk d g.nm) = some (.str (f g d))
  key : ∀ k ∈ es.map (·.1), ∃ g ∈ gs, ∃ d : Int, 0 ≤ d ∧ d < 40 ∧ cov g d ∧ k = tk d g.nm
  nd : (es.map (·.1)).Nodup
def allT (_ : Gt) (d : Int) : Prop := 0 ≤ d ∧ d < 40
/-- who holds each turn behind some loans -/
abbrev HeldIs (gs : List Gt) (ls : List Ln) (es : List (List Key × D)) : Prop := HeldC gs (fun g d => holdG g ls d) allT es
theorem HeldC.len {gs : List Gt} {f : Gt → Int → Str} {cov : Gt → Int → Prop} {es : List (List Key × D)} (h : HeldC gs f cov es) : es.length ≤ gs.length * 40 := by
  have := nodup_subA (b := (gs.map fun g => (List.range 40).map fun i : Nat => tk (i : Int) g.nm).flatten) h.nd fun k hk => by
    obtain ⟨g, hg, d, d0, d1, _, rfl⟩ := h.key k hk
    exact List.mem_flatten.mpr ⟨_, List.mem_map.mpr ⟨g, hg, rfl⟩, List.mem_map.mpr ⟨d.toNat, List.mem_range.mpr (by omega), by rw [Int.toNat_of_nonneg d0]⟩⟩
  rw [List.length_map] at this
  refine Nat.le_trans this ?_
  have e : ∀ l : List Gt, ((l.map fun g => (List.range 40).map fun i : Nat => tk (i : Int) g.nm).flatten).length = l.length * 40 := fun l => by
    induction l with
    | nil => rfl
    | cons g l ih => rw [List.map_cons, List.flatten_cons, List.length_append, ih, List.length_map, List.length_range, List.length_cons]; omega
  rw [e]
  exact Nat.le_refl _
theorem HeldC.nil {gs : List Gt} {f : Gt → Int → Str} : HeldC gs f (fun _ _ => False) [] := ⟨fun _ _ _ h => h.elim, fun _ h => by simp at h, List.nodup_nil⟩
theorem HeldC.cong {gs : List Gt} {f : Gt → Int → Str} {cov cov' : Gt → Int → Prop} {es : List (List Key × D)} (h : HeldC gs f cov es) (e : ∀ g ∈ gs, ∀ d, cov g d ↔ cov' g d) : HeldC gs f cov' es :=
  ⟨fun g hg d hc => h.get g hg d ((e g hg d).mpr hc), fun k hk => by
    obtain ⟨g, hg, d, d0, d1, hc, rfl⟩ := h.key k hk
    exact ⟨g, hg, d, d0, d1, (e g hg d).mp hc, rfl⟩, h.nd⟩
/-- a turn more is told -/
theorem HeldC.put {gs : List Gt} {f : Gt → Int → Str} {cov : Gt → Int → Prop} {es : List (List Key × D)} (h : HeldC gs f cov es) (nd : (gs.map Gt.nm).Nodup) {g : Gt} (hg : g ∈ gs) {d : Int} (d0 : 0 ≤ d) (d1 : d < 40) :
    HeldC gs f (fun g' d' => cov g' d' ∨ (g' = g ∧ d' = d)) (putD es (tk d g.nm) (.str (f g d))) := by
  have inj : ∀ g' ∈ gs, g'.nm = g.nm → g' = g := fun g' hg' e => by
    obtain ⟨i, hi⟩ := List.mem_iff_getElem?.mp hg
    obtain ⟨j, hj⟩ := List.mem_iff_getElem?.mp hg'
    have h1 : (gs.map Gt.nm)[i]? = some g.nm := by rw [List.getElem?_map, hi]; rfl
    have h2 : (gs.map Gt.nm)[j]? = some g.nm := by rw [List.getElem?_map, hj, ← e]; rfl
    have := (List.getElem?_inj (List.getElem?_eq_some_iff.mp h1).1 nd).mp (h1.trans h2.symm)
    subst this
    rw [hi] at hj
    cases hj
    rfl
  refine ⟨fun g' hg' d' hc => ?_, fun k hk => ?_, putD_nd h.nd⟩
  · rw [getK_put]
    by_cases e : tk d g.nm = tk d' g'.nm
    · obtain ⟨e1, e2⟩ := tk_inj e
      have := inj g' hg' e2.symm
      subst this e1
      rw [if_pos rfl]
    · rw [if_neg e]
      rcases hc with hc | ⟨rfl, rfl⟩
      · exact h.get g' hg' d' hc
      · exact absurd rfl e
  · rcases putD_memk.mp hk with hk | rfl
    · obtain ⟨g', hg', d', e0, e1, hc, rfl⟩ := h.key k hk
      exact ⟨g', hg', d', e0, e1, .inl hc, rfl⟩
    · exact ⟨g, hg, d, d0, d1, .inr ⟨rfl, rfl⟩, rfl⟩
/-- a loan more -/
theorem HeldC.lend {gs : List Gt} {ls : List Ln} {es : List (List Key × D)} (h : HeldIs gs ls es) {l : Ln} (hl : ∃ g ∈ gs, g.nm = l.g) (d0 : 0 ≤ l.d) (d1 : l.d < 40) : HeldIs gs (ls ++ [l]) (putD es (tk l.d l.g) (.str l.b)) := by
  refine ⟨fun g' hg' d' hc => ?_, fun k hk => ?_, putD_nd h.nd⟩
  · rw [getK_put]
    show _ = some (D.str (holdL (ls ++ [l]) (rightG g' d') d' g'.nm))
    rw [holdL_snoc]
    by_cases e : l.d = d' ∧ l.g = g'.nm
    · rw [if_pos e, if_pos (by rw [e.1, e.2])]
    · rw [if_neg e, if_neg (fun z => e (tk_inj z))]
      exact h.get g' hg' d' hc
  · rcases putD_memk.mp hk with hk | rfl
    · exact h.key k hk
    · obtain ⟨g, hg, e⟩ := hl
      exact ⟨g, hg, l.d, d0, d1, ⟨d0, d1⟩, by rw [e]⟩
/-- loans of a terrace among people -/
structure LnOk (gs : List Gt) (pp : List Str) (l : Ln) : Prop where
  d0 : 0 ≤ l.d
  d1 : l.d < 40
  g : ∃ g ∈ gs, g.nm = l.g
  a : l.a ∈ pp
  b : l.b ∈ pp
theorem filt_one {α : Type} {k : α → Str} : ∀ {l : List α} {a : α}, (l.map k).Nodup → a ∈ l → (l.filter fun x => decide (k x = k a)) = [a]
  | [], _, _, h => nomatch h
  | x :: l, a, nd, h => by
    obtain ⟨h1, h2⟩ := List.nodup_cons.mp nd
    rw [List.filter_cons]
    by_cases e : k x = k a
    · rw [if_pos (by simpa using e)]
      have hn : (l.filter fun x => decide (k x = k a)) = [] := List.filter_eq_nil_iff.mpr fun y hy => by
        have : k y ≠ k a := fun z => h1 (List.mem_map.mpr ⟨y, hy, z.trans e.symm⟩)
        simpa using this
      rw [hn]
      rcases List.mem_cons.mp h with rfl | h
      · rfl
      · exact absurd (List.mem_map.mpr ⟨a, h, e.symm⟩) h1
    · rw [if_neg (by simpa using e)]
      rcases List.mem_cons.mp h with rfl | h
      · exact absurd rfl e
      · exact filt_one h2 h
theorem fmod_emod {a b : Int} (h : 0 ≤ b) : Int.fmod a b = a % b := Int.fmod_eq_emod_of_nonneg _ h
end PD
namespace PD
variable [PD.TabL]
open PySem PySem.Spec PyProof.Rows L2
def eUC (T : String) (f : D → List D → Option (D × D)) (m : M Vl) (ms : M (List Vl)) : M Vl := bd m fun r => match r with
  | .bo i => bd (ckT T (.bo i)) fun _ => bd ms fun rs e => match cnts e rs with
    | some ds => match mutAtD e i with
      | some d0 => match f d0 ds with
        | some (d', x) => some (.im x, putC e i d')
        | none => none
      | none => none
    | none => none
  | _ => fun _ => none
section
variable {g : G0} {c : Ct} {o e : Expr} {m : M Vl} {ms : M (List Vl)} {pos apos : Pos}
end
theorem W_eUC {T : String} {f : D → List D → Option (D × D)} {m : M Vl} {ms : M (List Vl)} {e : Env} {Q : Vl → Env → Prop} : @W _ (eUC T f m ms) e ⟨Q⟩ =
    @W _ m e ⟨fun r e0 => match r with
      | .bo i => @W _ (ckT T (.bo i)) e0 ⟨fun _ e1 => @W _ ms e1 ⟨fun rs e2 => @WO _ (cnts e2 rs) ⟨fun ds => @WO _ (mutAtD e2 i) ⟨fun d0 => @WO _ (f d0 ds) ⟨fun p => @WO _ (putO e2 i p.1) ⟨fun e4 => Q (.im p.2) e4⟩⟩⟩⟩⟩⟩
      | .im _ => False
      | .fr _ => False⟩ := by
  unfold eUC
  simp only [W_eq, WO_eq, bd]
  cases m e with
  | none => rfl
  | some p =>
    obtain ⟨r, e0⟩ := p
    cases r with
    | im d => rfl
    | fr d => rfl
    | bo i =>
      simp only [bd]
      cases ckT T (.bo i) e0 with
      | none => rfl
      | some q =>
        dsimp only
        cases ms q.2 with
        | none => rfl
        | some w =>
          dsimp only
          cases cnts w.2 w.1 with
          | none => rfl
          | some z =>
            dsimp only
            cases mutAtD w.2 i with
            | none => rfl
            | some d0 =>
              dsimp only
              cases f d0 z with
              | none => rfl
              | some x => rfl
def sl (x y : Str) : Prop := x.cps.toList < y.cps.toList
instance (x y : Str) : Decidable (sl x y) := inferInstanceAs (Decidable (_ < _))
theorem sl_irr (x : Str) : ¬ sl x x := List.lt_irrefl _
theorem le_name {x y : Str} {ds es : List D} (h : PySem.W.dataLe false D.py (.tup (.str x :: ds)) (.tup (.str y :: es)) = true) : ¬ sl y x := fun hs => by
  have h : (!PySem.W.dataLt (.tuple (.str y :: pys es)) (.tuple (.str x :: pys ds))) = true := h
  rw [PySem.W.dataLt_tuple] at h
  have e := PySem.W.dataLt_cons (x := .str y) (y := .str x) (by simp [PySem.W.alike]) (pys es) (pys ds)
  rw [e, PySem.W.dataLt_str] at h
  have hne : y ≠ x := fun z => sl_irr x (z ▸ hs)
  have hs' : y.cps.toList < x.cps.toList := hs
  have he : PyData.eqv (.str y) (.str x) = false := by
    simp only [PyData.eqv]
    simpa using hne
  rw [he] at h
  simp [hs'] at h
def RisG (gs : List Gt) : Prop := gs.Pairwise fun a b => ¬ sl b.nm a.nm
theorem sort_gates {gs gs' : List Gt} (h : sortL (gs.map Gt.d) = gs'.map Gt.d) : RisG gs' := by
  have := sortL_pw (gs.map Gt.d)
  rw [h, List.pairwise_map] at this
  exact this.imp fun h => le_name h
def kp : List Key → Int × Str
  | [.inl d, .inr x] => (d, x)
  | _ => (0, noS)
end PD
namespace PD
variable [PD.TabL]
open PySem PySem.Spec PyProof.Rows L2
/-- a name: one to six small letters -/
structure NmL (x : Str) : Prop where
  l0 : 1 ≤ x.length
  l1 : x.length ≤ 6
  lt : ∀ c ∈ x.cps.toList, c ∈ LT
theorem NmL.of {cs : List Nat} (h0 : 1 ≤ cs.length) (h1 : cs.length ≤ 6) (h : ∀ c ∈ cs, c ∈ LT) : NmL ⟨cs.toArray⟩ := ⟨by show 1 ≤ cs.toArray.size; simpa using h0, by show cs.toArray.size ≤ 6; simpa using h1, fun c hc => h c (by simpa using hc)⟩
end PD
namespace PD
variable [PD.TabL]
open PySem PySem.Spec PyProof.Rows L2
def eTmpL (m : M Vl) : M Vl := fun e => match m (e.map Sl.frz) with
  | some (.fr (.lst ys), _) => if ys.all D.atom = true then some (.fr (.lst ys), e) else none
  | _ => none
section
variable {K : PySem.W.Frag}
end
theorem W_eTmpL {e : Env} {m : M Vl} {Q : Vl → Env → Prop} : @W _ (eTmpL m) e ⟨Q⟩ = @WO _ (some (e.map Sl.frz)) ⟨fun e0 => @W _ m e0 ⟨fun r _ => match r with | .fr (.lst ys) => @WC (ys.all D.atom) ⟨Q (.fr (.lst ys)) e⟩ | _ => False⟩⟩ := by
  rw [WO_some, W_eq, W_eq]
  unfold eTmpL
  cases m (e.map Sl.frz) with
  | none => rfl
  | some p =>
    obtain ⟨r, e1⟩ := p
    cases r with
    | im d => rfl
    | bo i => rfl
    | fr d =>
      cases d <;> try rfl
      rename_i ys
      dsimp only
      unfold WC
      cases ys.all D.atom <;> simp
end PD
namespace PD
variable [PD.TabL]
open PySem PySem.Spec PyProof.Rows L2
def rngS (lo c : Int) (n : Nat) : List D := (List.range n).map fun i : Nat => D.int (lo + (i : Int) * c)
def rgcB (i j c : Int) : Bool := decide (c ≠ 0) && decide (c.natAbs < 1073741824) && Builtin.Range.small i j c && decide (Builtin.Range.rangeSize i j c = ((Builtin.Range.rangeSize i j c).toNat : Int))
def rg3 : List D → Option (List D)
  | [.int i, .int j, .int c] => if rgcB i j c = true then some (rngS i c (Builtin.Range.rangeSize i j c).toNat) else none
  | _ => none
def mR3 (ms : M (List Vl)) : M (List D) := bd ms fun rs e => match cnts e rs with
  | some ds => match rg3 ds with
    | some l => some (l, e)
    | none => none
  | none => none
theorem W_mR3 {ms : M (List Vl)} {Q : List D → Env → Prop} {e : Env} : @W _ (mR3 ms) e ⟨Q⟩ = @W _ ms e ⟨fun rs e' => @WO _ (cnts e' rs) ⟨fun ds => @WO _ (rg3 ds) ⟨fun l => Q l e'⟩⟩⟩ := by
  unfold mR3
  simp only [W_eq, WO_eq, bd]
  cases ms e with
  | none => rfl
  | some p =>
    dsimp only
    try rw [WO_eq]
    cases cnts p.2 p.1 with
    | none => rfl
    | some ds =>
      dsimp only
      try rw [WO_eq]
      cases rg3 ds <;> rfl
section
variable {g : G0} {c : Ct} {a b d : Expr} {ms : M (List Vl)} {p p2 pos pos2 : Pos} {tg : Expr}
end
section
variable {X : Cx} {e1 e2 : Expr} {ta : TA} {p p2 pos pos2 : Pos}
end
section
variable {g : G0} {c : Ct} {a b : Expr} {ms : M (List Vl)} {p p2 pos pos2 : Pos}
end
theorem rg3_10 : rg3 [.int 0, .int 40, .int 10] = some [.int 0, .int 10, .int 20, .int 30] := by
  have h : rgcB 0 40 10 = true := by decide +kernel
  unfold rg3
  dsimp only
  rw [if_pos h]
  have h2 : (Builtin.Range.rangeSize 0 40 10).toNat = 4 := by decide +kernel
  rw [h2]
  rfl
end PD
namespace PD
variable [PD.TabL]
open PySem PySem.Spec PyProof.Rows L2
end PD
namespace PD
variable [PD.TabL]
open PySem PySem.Spec PyProof.Rows L2
def revLD : D → Option D
  | .lst ds => some (.lst ds.reverse)
  | _ => none
def eRev (ma : M Vl) : M Vl := bd ma fun r e => match cnt e r.hold with
  | some d => match revLD d with
    | some d' => some (.fr d', e)
    | none => none
  | none => none
theorem sx_rev {K : PySem.W.Frag} {A : Anc} {t : TE} {ma : M Vl} (h : SEX K A t ma) : SEX K A (tRevL K t) (eRev ma) := fun σ τ B H env pe env' res Q S hl e q => by
  obtain ⟨r, e1, h1, e⟩ := bd_inv e
  refine h σ τ B H env pe e1 r _ S hl h1 fun B1 H1 v s1 hl1 hv => ?_
  obtain ⟨B2, s2, S2, hhv⟩ := hv.held
  split at e
  · rename_i d hd
    split at e
    · rename_i d' hr
      cases e
      unfold revLD at hr
      split at hr
      · rename_i ds
        cases hr
        have rr := Hv.rr S2 hl1 hhv hd
        obtain ⟨a, us, rfl, ha, ra⟩ := rr.lst S2.same
        exact ⟨a, us, rfl, .of ha, fun p hp => q B2 _ _ (s1.trans s2) hl1 ((VRp.lst S2 hp ra.rev))⟩
      · cases hr
    · cases e
  · cases e
theorem W_eRev {ma : M Vl} {e : Env} {Q : Vl → Env → Prop} : @W _ (eRev ma) e ⟨Q⟩ = @W _ ma e ⟨fun r e1 => @WO _ (cnt e1 r.hold) ⟨fun d => @WO _ (revLD d) ⟨fun d' => Q (.fr d') e1⟩⟩⟩ := by
  unfold eRev
  simp only [W_eq, WO_eq, bd]
  cases ma e with
  | none => rfl
  | some p =>
    dsimp only
    try rw [WO_eq]
    cases cnt p.2 p.1.hold with
    | none => rfl
    | some d =>
      dsimp only
      try rw [WO_eq]
      cases revLD d <;> rfl
section
variable {g : G0} {c : Ct} {a : Expr} {k : Nat} {p1 p2 p3 pos : Pos} {ma : M Vl}
theorem ee_rev (h : EE g c a ma) : EE g c (.Subscript a (.Slice none none (some (.UnaryOp .USub (.Constant (.int 1) k p1) p2)) p3) pos) (eRev ma) := by
  obtain ⟨t, h1, h2⟩ := h
  refine ⟨tRevL g.K t, fun X hX => ?_, fun A => sx_rev (h2 A)⟩
  rw [← hX.eK]
  exact pe_revL (h1 X hX)
end
end PD
namespace PD
variable [PD.TabL]
open PySem PySem.Spec PyProof.Rows L2
section
variable {g : G0} {c : Ct} {pos : Pos} {mt : M Bool}
end
end PD
namespace PD
variable [PD.TabL]
open PySem PySem.Spec PyProof.Rows L2
def eFrz (m : M Vl) : M Vl := bd m fun r => bd (frz r.hold) fun d => rt (.im d)
section
variable {K : PySem.W.Frag} {A : Anc}
end
theorem W_eFrz {e : Env} {m : M Vl} {Q : Vl → Env → Prop} : @W _ (eFrz m) e ⟨Q⟩ = @W _ m e ⟨fun r e1 => @W _ (frz r.hold) e1 ⟨fun d e2 => Q (.im d) e2⟩⟩ := by
  unfold eFrz
  simp only [W_eq, bd]
  cases m e with
  | none => rfl
  | some p =>
    dsimp only
    try rw [W_eq]
    cases frz p.1.hold p.2 <;> rfl
end PD
namespace PD
variable [PD.TabL]
open PySem PySem.Spec PyProof.Rows L2
def eKf (m : M Vl) : M Vl := fun e => match m e with
  | some (.fr (.dk es), e1) => some (.im (.kf es), e1)
  | _ => none
section
variable {K : PySem.W.Frag} {A : Anc}
end
theorem W_eKf {e : Env} {m : M Vl} {Q : Vl → Env → Prop} : @W _ (eKf m) e ⟨Q⟩ = @W _ m e ⟨fun r e1 => match r with
    | .fr (.dk es) => Q (.im (.kf es)) e1
    | _ => False⟩ := by
  unfold eKf
  simp only [W_eq]
  cases m e with
  | none => rfl
  | some p =>
    obtain ⟨r, e1⟩ := p
    cases r with
    | fr d => cases d <;> rfl
    | im d => rfl
    | bo i => rfl
end PD
namespace PD
variable [PD.TabL]
open PySem PySem.Spec PyProof.Rows L2
section
variable {X : Cx}
end
section
variable {K : PySem.W.Frag} {A : Anc} {vs : L2.St} {env : Env}
end
section
variable {g : G0} {c : Ct} {o : Expr} {m : M Vl} {p p2 pos pos2 : Pos}
end
end PD
namespace PD
variable [PD.TabL]
open PySem PySem.Spec PyProof.Rows L2
def eLk (m : M Vl) : M Vl := fun e => match m e with
  | some (.bo i, e1) => match e1[i]? with
    | some (.ow (.dk es)) => some (.im (.kf es), e1.set i (.im (.kf es)))
    | _ => none
  | _ => none
section
variable {K : PySem.W.Frag} {A : Anc}
end
theorem W_eLk {e : Env} {m : M Vl} {Q : Vl → Env → Prop} : @W _ (eLk m) e ⟨Q⟩ = @W _ m e ⟨fun r e1 => match r with
    | .bo i => @WO _ e1[i]? ⟨fun sl => match sl with
      | .ow (.dk es) => @WO _ (setO e1 i (.im (.kf es))) ⟨fun e2 => Q (.im (.kf es)) e2⟩
      | _ => False⟩
    | _ => False⟩ := by
  have sO : ∀ {l : Env} {i : Nat} {sl x : Sl}, l[i]? = some sl → setO l i x = some (l.set i x) := fun {l i sl x} h => by
    rw [← setO_ok, if_pos (List.getElem?_eq_some_iff.mp h).1]
  unfold eLk
  simp only [W_eq]
  cases m e with
  | none => rfl
  | some p =>
    obtain ⟨r, e1⟩ := p
    cases r with
    | fr d => rfl
    | im d => rfl
    | bo i =>
      dsimp only
      cases h : e1[i]? with
      | none => simp [WO_none]
      | some sl =>
        have hs := fun x => sO (x := x) h
        cases sl with
        | ow d => cases d <;> simp [WO_some, hs]
        | _ => simp [WO_some]
end PD
namespace PD
variable [PD.TabL]
open PySem PySem.Spec PyProof.Rows L2
section
variable {X : Cx}
end
end PD
namespace HT
open PySem PySem.Spec PyProof.Rows
section
variable {prog : Program} {w : World} {A : Around} {E : Value → Shared → Prop} {s : Shared}
end
end HT
namespace PD
variable [PD.TabL]
open PySem PySem.Spec PyProof.Rows L2
section
variable {X : Cx}
end
def rev2D : D → Option D
  | .tup [d1, d2] => some (.tup [d2, d1])
  | _ => none
def eRev2 (ma : M Vl) : M Vl := bd ma fun r e => match cnt e r.hold with
  | some d => match rev2D d with
    | some d' => some (.im d', e)
    | none => none
  | none => none
theorem W_eRev2 {ma : M Vl} {e : Env} {Q : Vl → Env → Prop} : @W _ (eRev2 ma) e ⟨Q⟩ = @W _ ma e ⟨fun r e1 => @WO _ (cnt e1 r.hold) ⟨fun d => @WO _ (rev2D d) ⟨fun d' => Q (.im d') e1⟩⟩⟩ := by
  unfold eRev2
  simp only [W_eq, WO_eq, bd]
  cases ma e with
  | none => rfl
  | some p =>
    dsimp only
    try rw [WO_eq]
    cases cnt p.2 p.1.hold with
    | none => rfl
    | some d =>
      dsimp only
      try rw [WO_eq]
      cases rev2D d <;> rfl
section
variable {g : G0} {c : Ct} {a : Expr} {k : Nat} {p1 p2 p3 pos : Pos} {ma : M Vl}
end
end PD
namespace PD
variable [PD.TabL]
open PySem PySem.Spec PyProof.Rows L2

section
variable (K : PySem.W.Frag) (A : Anc)
def FPF (B : Hp) (E : Ends) (env' : Env) (V : List Nat) (σ0 : L2.St) : Fl → Prop
  | .nx => ∀ σ' B' H', Same B B' → L2.wipe σ' V = L2.wipe σ0 V → SR K A B' H' σ' env' → E.nx σ' H'
  | .bk => ∀ σ' B' H', Same B B' → L2.wipe σ' V = L2.wipe σ0 V → SR K A B' H' σ' env' → E.bk σ' H'
  | .ct => ∀ σ' B' H', Same B B' → L2.wipe σ' V = L2.wipe σ0 V → SR K A B' H' σ' env' → E.ct σ' H'
  | .rt r => ∀ σ' B' H' v, Same B B' → σ'.length = env'.length → VR K A B' H' σ' [] env' [] r v → E.rt v H'
end
section
variable {K : PySem.W.Frag} {A : Anc} {B H : Hp} {σ τ : L2.St} {env pe : Env} {V : List Nat}
theorem FPF.mono {B2 : Hp} {E : Ends} {env' : Env} {σ1 : L2.St} {fl : Fl} (s : Same B B2) (w : L2.wipe σ1 V = L2.wipe σ V) (h : FPF K A B E env' V σ fl) : FPF K A B2 E env' V σ1 fl := by
  cases fl with
  | nx => exact fun σ' B' H' s' w' => h σ' B' H' (s.trans s') (w'.trans w)
  | bk => exact fun σ' B' H' s' w' => h σ' B' H' (s.trans s') (w'.trans w)
  | ct => exact fun σ' B' H' s' w' => h σ' B' H' (s.trans s') (w'.trans w)
  | rt r => exact fun σ' B' H' v s' => h σ' B' H' v (s.trans s')
end

mutual
def LF : D → Bool
  | .non => true
  | .bl _ => true
  | .int _ => true
  | .str _ => true
  | .txt _ => true
  | .tup ds => LFs ds
  | _ => false
def LFs : List D → Bool
  | [] => true
  | d :: ds => LF d && LFs ds
end
mutual
/-- no thing is both -/
def apart : D → D → Bool
  | .lst ds, .lst es => aparts ds es
  | .tup ds, .tup es => aparts ds es
  | .lst _, .tup _ => true
  | .tup _, .lst _ => true
  | .int i, .int j => decide (i ≠ j)
  | .str x, .str y => decide (x ≠ y)
  | .int _, .str _ => true
  | .str _, .int _ => true
  | .int _, .tup _ => true
  | .tup _, .int _ => true
  | .str _, .tup _ => true
  | .tup _, .str _ => true
  | .int _, .lst _ => true
  | .lst _, .int _ => true
  | .str _, .lst _ => true
  | .lst _, .str _ => true
  | _, _ => false
def aparts : List D → List D → Bool
  | [], [] => false
  | [], _ :: _ => true
  | _ :: _, [] => true
  | d :: ds, e :: es => apart d e || aparts ds es
end
end PD
namespace PD
variable [PD.TabL]
open PySem PySem.Spec PyProof.Rows L2

section
variable {K : PySem.W.Frag} {A : Anc} {B H : Hp} {σ τ : L2.St} {env pe : Env}
def emp (n : Nat) : Env := List.replicate n .em
/-- a list that nobody holds is lent to slot i, all else is frozen -/
theorem SR.lend {i : Nat} {p : Addr} {cs : List D} (S : SR K A B H σ env) (hi : i < env.length) (he : env[i]? = some .em) (b : B p = none) (c : Cont K B (.lst cs) (H p)) (nm : ∀ (j : Nat) (sl : Sl), env[j]? = some sl → sl.mut = true → σ[j]? ≠ some (some (V.ref p))) :
    ∃ B', Same B B' ∧ SR K ⟨noT H, B', fun _ => some p⟩ B' H (σ.set i (some (.ref p))) ((env.map Sl.frz).set i (.io 0 (.lst cs))) := by
  classical
  let held : Addr → Prop := fun a => ∃ (i : Nat) (sl : Sl), env[i]? = some sl ∧ sl.mut = true ∧ σ[i]? = some (some (.ref a))
  let B' : Hp := fun a => if (∃ o, B a = some o) ∨ held a then H a else none
  have hB : Same B B' := fun a o e => by
    show (if _ then _ else _) = _
    rw [if_pos (.inl ⟨o, e⟩)]
    exact S.same a o e
  have hH : Same B' H := fun a o e => by
    have e : (if (∃ o, B a = some o) ∨ held a then H a else none) = some o := e
    split at e
    · exact e
    · cases e
  have bp : B' p = none := by
    show (if _ then _ else _) = _
    rw [if_neg]
    rintro (⟨o, e⟩ | ⟨j, sl, e1, m, e2⟩)
    · rw [b] at e
      cases e
    · exact nm j sl e1 m e2
  have atp : ∀ (p : Addr) (i : Nat) (sl : Sl), env[i]? = some sl → sl.mut = true → σ[i]? = some (some (V.ref p)) → B' p = H p := fun p i sl e1 m e2 => by
    show (if _ then _ else _) = _
    rw [if_pos (.inr ⟨i, sl, e1, m, e2⟩)]
  have gi : ∀ j sl2, ((env.map Sl.frz).set i (.io 0 (.lst cs)))[j]? = some sl2 → (j = i ∧ sl2 = .io 0 (.lst cs)) ∨ (j ≠ i ∧ ∃ s0, env[j]? = some s0 ∧ sl2 = s0.frz) := fun j sl2 e => by
    by_cases hj : i = j
    · subst hj
      rw [List.getElem?_set_self (by simpa using hi)] at e
      cases e
      exact .inl ⟨rfl, rfl⟩
    · rw [List.getElem?_set_ne hj, List.getElem?_map] at e
      cases h : env[j]? with
      | none =>
        rw [h] at e
        cases e
      | some s0 =>
        rw [h] at e
        cases e
        exact .inr ⟨fun z => hj z.symm, s0, rfl, rfl⟩
  have nf : ∀ s0 : Sl, s0.frz.mut = true → False := fun s0 h => by cases s0 <;> cases h
  refine ⟨B', hB, ⟨by simp [S.len], hH, fun j sl ov e1 e2 => ?_, fun j k q s1 s2 ne e1 e2 m1 m2 _ _ => ?_, fun a o e _ => ⟨noT_some e, .inl rfl⟩, fun a ⟨j, h⟩ => ?_, fun a ⟨j, h⟩ => ?_, fun q hq => ⟨(S.tab q hq).1, ?_, noT_tab hq⟩⟩⟩
  · rcases gi j sl e1 with ⟨rfl, rfl⟩ | ⟨hj, s0, h0, rfl⟩
    · rw [List.getElem?_set_self (by rw [S.len]; exact hi)] at e2
      cases e2
      exact .io rfl (c.mono hB)
    · rw [List.getElem?_set_ne (fun z => hj z.symm)] at e2
      cases S.slot j s0 ov h0 e2 with
      | em => exact .em
      | im r => exact .im (r.mono hB)
      | ow b h c => exact .im (c.frozen hB (atp _ j _ h0 rfl e2))
      | io h c => exact .im (c.frozen hB (atp _ j _ h0 rfl e2))
  · rcases gi j s1 e1 with ⟨rfl, rfl⟩ | ⟨_, s0, _, rfl⟩
    · rcases gi k s2 e2 with ⟨rfl, rfl⟩ | ⟨_, s0, _, rfl⟩
      · exact ne rfl
      · exact nf _ m2
    · exact nf _ m1
  · cases h
    obtain ⟨o, e⟩ := c.some
    rw [e] at c
    exact ⟨bp, o, e, c.nt⟩
  · cases h
    show ∃ o, noT H p = some o
    rw [noT_of (S.tC c)]
    exact c.some
  · show (if _ then _ else _) = _
    rw [if_neg]
    rintro (⟨o, e⟩ | ⟨i, sl, e1, m, e2⟩)
    · rw [(S.tab q hq).2.1] at e
      cases e
    · obtain ⟨p, d, u, f1, _, f2, f3⟩ := (S.slot i sl _ e1 e2).held m
      cases f1
      exact S.tC (by rw [f2]; exact f3) (List.mem_map.mpr ⟨q, hq, rfl⟩)
end

mutual
def LG : D → Bool
  | .non => true
  | .bl _ => true
  | .int _ => true
  | .str _ => true
  | .txt _ => true
  | .tup ds => LGs ds
  | .tp ds => LGs ds
  | .fe => true
  | _ => false
def LGs : List D → Bool
  | [] => true
  | d :: ds => LG d && LGs ds
end
mutual
theorem Rp.lg {K : PySem.W.Frag} {B B' H : Hp} (s : Same B H) (ht : ∀ a ts, H a = some (HO.tup ts) → B' a = some (HO.tup ts)) (hf : ∀ a o ts, B a = some (HO.frz o (HO.tup ts)) → B' a = some (HO.frz o (HO.tup ts))) (he : ∀ a o, B a = some (HO.frz o (HO.lst [])) → B' a = some (HO.frz o (HO.lst []))) : ∀ {d : D} {v : V}, LG d = true → Rp K B d v → Rp K B' d v
  | _, _, _, .non => .non
  | _, _, _, .bl b => .bl b
  | _, _, _, .int i => .int i
  | _, _, _, .str x h => .str x h
  | .ty _, _, h, _ => by simp [LG] at h
  | _, _, _, .txt x => .txt x
  | _, _, h, .tup h' r => .tup (ht _ _ (s _ _ h')) (Rps.lg s ht hf he (by simpa [LG] using h) r)
  | _, _, h, .lst _ _ => by simp [LG] at h
  | _, _, h, .sc _ => by simp [LG] at h
  | _, _, _, .fe h => .fe (he _ _ h)
  | _, _, h, .tp h' e r => .tp (hf _ _ _ h') e (Rps.lg s ht hf he (by simpa [LG] using h) r)
  | _, _, h, .dk _ _ _ => by simp [LG] at h
  | _, _, h, .dt _ _ _ => by simp [LG] at h
  | _, _, h, .kf _ _ _ => by simp [LG] at h
  | _, _, h, .tf _ _ _ => by simp [LG] at h
  | _, _, h, .ex _ _ _ => by simp [LG] at h
  | _, _, h, .cl _ => by simp [LG] at h
theorem Rps.lg {K : PySem.W.Frag} {B B' H : Hp} (s : Same B H) (ht : ∀ a ts, H a = some (HO.tup ts) → B' a = some (HO.tup ts)) (hf : ∀ a o ts, B a = some (HO.frz o (HO.tup ts)) → B' a = some (HO.frz o (HO.tup ts))) (he : ∀ a o, B a = some (HO.frz o (HO.lst [])) → B' a = some (HO.frz o (HO.lst []))) : ∀ {ds : List D} {vs : List V}, LGs ds = true → Rps K B ds vs → Rps K B' ds vs
  | _, _, _, .nil => .nil
  | _, _, h, .cons r t => .cons (Rp.lg s ht hf he (by simp [LGs] at h; exact h.1) r) (Rps.lg s ht hf he (by simp [LGs] at h; exact h.2) t)
end
def kpS : Sl → Sl
  | .im d => if LG d = true then .im d else match d with
    | .lst ds => if LGs ds = true then .im (.lst ds) else .em
    | _ => .em
  | .ow (.lst ds) => if LGs ds = true then .im (.lst ds) else .em
  | .io _ (.lst ds) => if LGs ds = true then .im (.lst ds) else .em
  | _ => .em
def keepE (ks : List Nat) : Nat → Env → Env
  | _, [] => []
  | n, sl :: r => (if n ∈ ks then kpS sl else .em) :: keepE ks (n + 1) r
def lstS : Sl → List D
  | .im (.lst ds) => [.lst ds]
  | _ => []
def keepL (e : Env) : List D := e.flatMap lstS
theorem keepE_length (ks : List Nat) : ∀ (n : Nat) (e : Env), (keepE ks n e).length = e.length
  | _, [] => rfl
  | n, _ :: r => by simp [keepE, keepE_length ks (n + 1) r]
theorem keepE_get (ks : List Nat) : ∀ (n : Nat) (e : Env) (i : Nat), (keepE ks n e)[i]? = (e[i]?).map fun sl => if n + i ∈ ks then kpS sl else .em
  | _, [], _ => by simp [keepE]
  | n, _ :: r, 0 => by simp [keepE]
  | n, _ :: r, i + 1 => by
    simp only [keepE, List.getElem?_cons_succ]
    rw [keepE_get ks (n + 1) r i, show n + 1 + i = n + (i + 1) by omega]
/-- what is kept of a slot: data without lists, or one list of such -/
theorem kpS_ok {K : PySem.W.Frag} {A : Anc} {B H : Hp} {sl : Sl} {ov : Option V} (s : SlOk K A B H sl ov) (sB : Same B H) : kpS sl = .em ∨ (∃ d v, kpS sl = .im d ∧ LG d = true ∧ ov = some v ∧ Rp K B d v) ∨ ∃ ds p xs, kpS sl = .im (.lst ds) ∧ LGs ds = true ∧ ov = some (.ref p) ∧ H p = some (.lst xs) ∧ Rps K B ds xs := by
  cases s with
  | em => exact .inl rfl
  | @im d v r =>
    unfold kpS
    dsimp only
    by_cases h : LG d = true
    · rw [if_pos h]
      exact .inr (.inl ⟨d, v, rfl, h, rfl, r⟩)
    · rw [if_neg h]
      cases d with
      | lst ds =>
        dsimp only
        by_cases h2 : LGs ds = true
        · rw [if_pos h2]
          cases r with
          | @lst a xs _ h3 r => exact .inr (.inr ⟨ds, a, xs, rfl, h2, rfl, sB _ _ h3, r⟩)
        · rw [if_neg h2]
          exact .inl rfl
      | _ => exact .inl rfl
  | @ow d p b h c =>
    generalize hp : H p = o at c
    cases c with
    | @lst xs ds r =>
      unfold kpS
      dsimp only
      by_cases h2 : LGs ds = true
      · rw [if_pos h2]
        exact .inr (.inr ⟨ds, p, xs, rfl, h2, rfl, hp, r⟩)
      · rw [if_neg h2]
        exact .inl rfl
    | dk _ _ => exact .inl rfl
    | dt _ _ => exact .inl rfl
  | @io d p j h c =>
    generalize hp : H p = o at c
    cases c with
    | @lst xs ds r =>
      unfold kpS
      dsimp only
      by_cases h2 : LGs ds = true
      · rw [if_pos h2]
        exact .inr (.inr ⟨ds, p, xs, rfl, h2, rfl, hp, r⟩)
      · rw [if_neg h2]
        exact .inl rfl
    | dk _ _ => exact .inl rfl
    | dt _ _ => exact .inl rfl
theorem SR.keep {K : PySem.W.Frag} {A : Anc} {B H : Hp} {σ : L2.St} {env : Env} (S : SR K A B H σ env) (ks : List Nat) : ∃ Bm, SR K ⟨noT H, Bm, fun _ => none⟩ Bm H σ (keepE ks 0 env) ∧ ∀ a xs, Bm a = some (.lst xs) → ∃ dl ∈ keepL (keepE ks 0 env), Rp K Bm dl (.ref a) := by
  classical
  let kept : Addr → Prop := fun a => ∃ (i : Nat) (ds : List D), (keepE ks 0 env)[i]? = some (.im (.lst ds)) ∧ σ[i]? = some (some (.ref a))
  let Bm : Hp := fun a => if (∃ ts, H a = some (HO.tup ts)) ∨ kept a ∨ (∃ o ts, B a = some (HO.frz o (HO.tup ts))) ∨ ∃ o, B a = some (HO.frz o (HO.lst [])) then H a else none
  have hH : Same Bm H := fun a o e => by
    have e : (if (∃ ts, H a = some (HO.tup ts)) ∨ kept a ∨ (∃ o ts, B a = some (HO.frz o (HO.tup ts))) ∨ ∃ o, B a = some (HO.frz o (HO.lst [])) then H a else none) = some o := e
    split at e
    · exact e
    · cases e
  have ht : ∀ a ts, H a = some (HO.tup ts) → Bm a = some (HO.tup ts) := fun a ts e => by
    show (if _ then _ else _) = _
    rw [if_pos (.inl ⟨ts, e⟩)]
    exact e
  have hfz : ∀ a o ts, B a = some (HO.frz o (HO.tup ts)) → Bm a = some (HO.frz o (HO.tup ts)) := fun a o ts e => by
    show (if _ then _ else _) = _
    rw [if_pos (.inr (.inr (.inl ⟨o, ts, e⟩)))]
    exact S.same _ _ e
  have hfe : ∀ a o, B a = some (HO.frz o (HO.lst [])) → Bm a = some (HO.frz o (HO.lst [])) := fun a o e => by
    show (if _ then _ else _) = _
    rw [if_pos (.inr (.inr (.inr ⟨o, e⟩)))]
    exact S.same _ _ e
  have atp : ∀ (p : Addr) (i : Nat) (ds : List D), (keepE ks 0 env)[i]? = some (.im (.lst ds)) → σ[i]? = some (some (V.ref p)) → Bm p = H p := fun p i ds e1 e2 => by
    show (if _ then _ else _) = _
    rw [if_pos (.inr (.inl ⟨i, ds, e1, e2⟩))]
  have slot : ∀ (i : Nat) (sl : Sl) (ov : Option V), (keepE ks 0 env)[i]? = some sl → σ[i]? = some ov → sl = .em ∨ ∃ d v, sl = .im d ∧ ov = some v ∧ Rp K Bm d v := fun i sl ov e1 e2 => by
    have e1' := e1
    rw [keepE_get, Option.map_eq_some_iff] at e1
    obtain ⟨s0, h0, rfl⟩ := e1
    split at e1'
    · rename_i hk
      rw [if_pos hk]
      rcases kpS_ok (S.slot i s0 ov h0 e2) S.same with z | ⟨d, v, z, l, rfl, r⟩ | ⟨ds, p, xs, z, l, rfl, hp, r⟩
      · exact .inl z
      · exact .inr ⟨d, v, z, rfl, r.lg S.same ht hfz hfe l⟩
      · rw [z] at e1'
        exact .inr ⟨_, _, z, rfl, .lst (by rw [atp p i ds e1' e2]; exact hp) (r.lg S.same ht hfz hfe l)⟩
    · rename_i hk
      rw [if_neg hk]
      exact .inl rfl
  refine ⟨Bm, ⟨by rw [keepE_length]; exact S.len, hH, fun i sl ov e1 e2 => ?_, fun i j p s1 s2 ne e1 e2 m1 _ e3 _ => ?_, fun a o e _ => ⟨noT_some e, .inl rfl⟩, fun a ⟨j, h⟩ => (by cases h), fun a ⟨j, h⟩ => (by cases h), fun q hq => ⟨(S.tab q hq).1, ?_, noT_tab hq⟩⟩, fun a xs e => ?_⟩
  · rcases slot i sl ov e1 e2 with rfl | ⟨d, v, rfl, rfl, r⟩
    · exact .em
    · exact .im r
  · rcases slot i s1 _ e1 e3 with rfl | ⟨d, v, rfl, _, _⟩
    · cases m1
    · cases m1
  · obtain ⟨⟨ps, et, _⟩, tb, _⟩ := S.tab q hq
    show (if _ then _ else _) = _
    rw [if_neg]
    rintro (⟨ts, z⟩ | ⟨i, ds, z1, z2⟩ | ⟨o, ts, z⟩ | ⟨o, z⟩)
    · rw [et] at z
      cases z
    · rcases slot i _ _ z1 z2 with y | ⟨d, v, y, y2, r⟩
      · cases y
      · cases y
        cases y2
        cases r with
        | lst h3 _ =>
          have := hH _ _ h3
          rw [et] at this
          cases this
    · rw [tb] at z
      cases z
    · rw [tb] at z
      cases z
  · have e0 := e
    have e : (if (∃ ts, H a = some (HO.tup ts)) ∨ kept a ∨ (∃ o ts, B a = some (HO.frz o (HO.tup ts))) ∨ ∃ o, B a = some (HO.frz o (HO.lst [])) then H a else none) = some (.lst xs) := e
    split at e
    · rename_i hk
      rcases hk with ⟨ts, z⟩ | ⟨i, ds, z1, z2⟩ | ⟨o, ts, z⟩ | ⟨o, z⟩
      · rw [e] at z
        cases z
      · refine ⟨.lst ds, List.mem_flatMap.mpr ⟨_, List.mem_of_getElem? z1, by simp [lstS]⟩, ?_⟩
        rcases slot i _ _ z1 z2 with y | ⟨d, v, y, y2, r⟩
        · cases y
        · cases y
          cases y2
          exact r
      · have := S.same _ _ z
        rw [e] at this
        cases this
      · have := S.same _ _ z
        rw [e] at this
        cases this
    · cases e
end PD
namespace PD
variable [PD.TabL]
open PySem PySem.Spec PyProof.Rows L2

section
variable {K : PySem.W.Frag} {A : Anc} {B H : Hp} {σ τ : L2.St} {env pe : Env}
/-- slot f holds a new list of new lists; all else stands as ahead -/
structure RGI (K : PySem.W.Frag) (A : Anc) (f : Nat) (B H : Hp) (env : Env) (σ : L2.St) (d : D) (L : List D) : Prop where
  hf : f < env.length
  ef : env[f]? = some .em
  len : σ.length = env.length
  ex : ∃ (Hs Bm B2 : Hp) (q : Addr), Same B Hs ∧ (∀ a, Hs a = none → A.H0 a = none) ∧
    (∀ H' : Hp, (∀ a o, Hs a = some o → H' a = some o) → (∀ q ∈ TabL.T, LamX.TabS H' q.1 q.2) → SR K A B H' σ env) ∧
    (∀ (i : Nat) (sl : Sl) (p : Addr), env[i]? = some sl → sl.mut = true → σ[i]? = some (some (V.ref p)) → ∃ o, Hs p = some o) ∧
    (Same Bm Hs ∧ ∀ a xs, Bm a = some (HO.lst xs) → ∃ dl ∈ L, Rp K Bm dl (.ref a)) ∧
    SR K ⟨Hs, Bm, fun _ => none⟩ B2 H σ ((emp env.length).set f (.im d)) ∧ σ[f]? = some (some (.ref q)) ∧ Hs q = none
abbrev RM := Env → D → List D → Option (Fl × Env)
end
end PD
namespace PD
variable [PD.TabL]
open PySem PySem.Spec PyProof.Rows L2

section
variable {K : PySem.W.Frag} {A : Anc} {B H : Hp} {σ τ : L2.St} {env pe : Env}
theorem LFs.mem {ds : List D} (l : LFs ds = true) : ∀ d ∈ ds, LF d = true := by
  induction ds with
  | nil => intro d h; cases h
  | cons a r ih =>
    simp only [LFs, Bool.and_eq_true] at l
    intro d h
    rcases List.mem_cons.mp h with rfl | h
    · exact l.1
    · exact ih l.2 d h
theorem SR.own {f : Nat} {p : Addr} {d : D} (S : SR K A B H σ env) (hf : f < env.length) (hv : σ[f]? = some (some (.ref p))) (b : B p = none) (h0 : A.H0 p = none) (c : Cont K B d (H p)) (nm : ∀ (j : Nat) (sl : Sl), j ≠ f → env[j]? = some sl → sl.mut = true → σ[j]? ≠ some (some (V.ref p))) :
    SR K A B H σ (env.set f (.ow d)) := by
  have gi : ∀ j sl, (env.set f (Sl.ow d))[j]? = some sl → (j = f ∧ sl = .ow d) ∨ (j ≠ f ∧ env[j]? = some sl) := fun j sl e => by
    by_cases hj : f = j
    · subst hj
      rw [List.getElem?_set_self hf] at e
      exact .inl ⟨rfl, (Option.some.inj e).symm⟩
    · rw [List.getElem?_set_ne hj] at e
      exact .inr ⟨fun z => hj z.symm, e⟩
  refine ⟨by simp [S.len], S.same, fun i sl ov e1 e2 => ?_, fun i j q s1 s2 ne e1 e2 m1 m2 e3 e4 => ?_, S.anc, S.iob, S.ioh, S.tab⟩
  · rcases gi i sl e1 with ⟨rfl, rfl⟩ | ⟨_, e1⟩
    · rw [hv] at e2
      cases e2
      exact .ow b h0 c
    · exact S.slot i sl ov e1 e2
  · rcases gi i s1 e1 with ⟨rfl, rfl⟩ | ⟨n1, f1⟩
    · rw [hv] at e3
      cases e3
      rcases gi j s2 e2 with ⟨rfl, rfl⟩ | ⟨n2, f2⟩
      · exact ne rfl
      · exact nm j s2 n2 f2 m2 e4
    · rcases gi j s2 e2 with ⟨rfl, rfl⟩ | ⟨n2, f2⟩
      · rw [hv] at e4
        cases e4
        exact nm i s1 n1 f1 m1 e3
      · exact S.inj i j q s1 s2 ne f1 f2 m1 m2 e3 e4
end

section
variable (g : G0) (c : Ct)
end
section
variable {g : G0} {c : Ct} {V : List Nat} {e : Expr} {pos : Pos} {m n : SM} {mt : M Bool} {me : M Vl} {s : Stmt} {ss r : List Stmt} {f tg : Nat} {mr : RM}
end

section
variable {e : Env} {Q : Fl → Env → Prop} {f tg : Nat} {V : List Nat} {m mb mr : SM} {rm : RM} {d : D} {L : List D} {m1 m2 : M Vl} {ks : List Nat}
end
end PD
namespace PD
variable [PD.TabL]
open PySem PySem.Spec PyProof.Rows L2
def getZ (e : Env) (r : Vl) : List Vl → Option (Vl × Env)
  | [rk, .im x] => match cnt e r with
    | some (.dk es) => match cnt e rk with
      | some kd => match keyD kd with
        | some k => some (.im ((getK es k).getD x), e)
        | none => none
      | none => none
    | _ => none
  | _ => none
def eGetZ (m : M Vl) (ms : M (List Vl)) : M Vl := bd m fun r => bd (ckT "dict" r.hold) fun _ => bd ms fun rs e => getZ e r.hold rs
section
variable {K : PySem.W.Frag} {A : Anc}
end
theorem W_eGetZ {e : Env} {m : M Vl} {ms : M (List Vl)} {Q : Vl → Env → Prop} : @W _ (eGetZ m ms) e ⟨Q⟩ = @W _ m e ⟨fun r e1 => @W _ (ckT "dict" r.hold) e1 ⟨fun _ e2 => @W _ ms e2 ⟨fun rs e3 => match rs with
    | [rk, .im x] => @WO _ (cnt e3 r.hold) ⟨fun d => match d with
      | .dk es => @WO _ (cnt e3 rk) ⟨fun kd => @WO _ (keyD kd) ⟨fun k => Q (.im ((getK es k).getD x)) e3⟩⟩
      | _ => False⟩
    | _ => False⟩⟩⟩ := by
  unfold eGetZ
  simp only [W_eq, WO_eq, bd]
  cases m e with
  | none => rfl
  | some p =>
    obtain ⟨r, e1⟩ := p
    dsimp only
    cases ckT "dict" r.hold e1 with
    | none => rfl
    | some q =>
      obtain ⟨q, e2⟩ := q
      dsimp only
      cases ms e2 with
      | none => rfl
      | some w =>
        obtain ⟨w, e3⟩ := w
        dsimp only
        match w with
        | [] => rfl
        | [_] => rfl
        | [_, .fr _] => rfl
        | [_, .bo _] => rfl
        | _ :: b :: _ :: _ => cases b <;> rfl
        | [rk, .im x] =>
          dsimp only [getZ]
          cases cnt e3 r.hold with
          | none => rfl
          | some d =>
            cases d with
            | dk es =>
              dsimp only
              cases cnt e3 rk with
              | none => rfl
              | some kd =>
                dsimp only
                cases keyD kd <;> rfl
            | _ => rfl
end PD
namespace PD
variable [PD.TabL]
open PySem PySem.Spec PyProof.Rows L2
mutual
def apT (L : List D) : D → Bool
  | .non => true
  | .bl _ => true
  | .int _ => true
  | .str _ => true
  | .txt _ => true
  | .ty _ => true
  | .tup ds => apTs L ds
  | .tp ds => apTs L ds
  | .lst ds => L.all (fun h => apart h (.lst ds)) && apTs L ds
  | _ => false
def apTs (L : List D) : List D → Bool
  | [] => true
  | d :: ds => apT L d && apTs L ds
end
def mutL : Env → List D
  | [] => []
  | .ow d :: r => d :: mutL r
  | .io _ d :: r => d :: mutL r
  | _ :: r => mutL r
section
variable {K : PySem.W.Frag} {A : Anc} {B H : Hp} {σ τ : L2.St} {env pe : Env}
end
/-- .. the slots are frozen while it runs -/
def eTmpA (m : M Vl) : M Vl := fun e => match m (e.map Sl.frz) with
  | some (.im d, _) => if apT (mutL e) d = true then some (.im d, e) else none
  | some (.fr (.lst ds), _) => if apTs (mutL e) ds = true then some (.fr (.lst ds), e) else none
  | _ => none
section
variable {K : PySem.W.Frag} {A : Anc} {B H : Hp} {σ τ : L2.St} {env pe : Env}
end
theorem W_eTmpA {e : Env} {m : M Vl} {Q : Vl → Env → Prop} : @W _ (eTmpA m) e ⟨Q⟩ = @WO _ (some (e.map Sl.frz)) ⟨fun e0 => @W _ m e0 ⟨fun r _ => match r with
    | .im d => @WC (apT (mutL e) d) ⟨Q (.im d) e⟩
    | .fr (.lst ds) => @WC (apTs (mutL e) ds) ⟨Q (.fr (.lst ds)) e⟩
    | _ => False⟩⟩ := by
  unfold eTmpA
  simp only [W_eq, WO_eq, WC_eq]
  cases m (e.map Sl.frz) with
  | none => rfl
  | some p =>
    obtain ⟨r, e'⟩ := p
    cases r with
    | im d =>
      dsimp only
      cases apT (mutL e) d <;> simp
    | fr d =>
      cases d with
      | lst ds =>
        dsimp only
        cases apTs (mutL e) ds <;> simp
      | _ => rfl
    | bo i => rfl
end PD
namespace PD
variable [PD.TabL]
open PySem PySem.Spec PyProof.Rows L2
section
variable {prog : Program} {w : World} {A : Around} {E : Value → Shared → Prop} {s : Shared}
end
end PD
namespace PD
variable [PD.TabL]
open PySem PySem.Spec PyProof.Rows L2
def sPF4 (i j l k : Nat) (m n o w : M Vl) : SM := fun e => match bd m hb e with
  | some (r1, e1) => match bd n hb e1 with
    | some (r2, e2) => match bd o hb e2 with
      | some (r3, e3) => match bd w hb e3 with
        | some (r4, e4) => match gN k r4 e4 with
          | some (_, e5) => match gN l r3 e5 with
            | some (_, e6) => match gN j r2 e6 with
              | some (_, e7) => match gN i r1 e7 with
                | some (_, e8) => some (.nx, e8)
                | none => none
              | none => none
            | none => none
          | none => none
        | none => none
      | none => none
    | none => none
  | none => none
section
variable {K : PySem.W.Frag} {A : Anc}
end
section
variable {g : G0} {c : Ct} {a b d f : Expr} {m n o w : M Vl} {pos px py pz pw pt pt2 : Pos} {kt k2 : Nat}
end
theorem W_sPF4 {e : Env} {i j l k : Nat} {m n o w : M Vl} {Q : Fl → Env → Prop} : @W _ (sPF4 i j l k m n o w) e ⟨Q⟩ = @W _ m e ⟨fun r e0 => @W _ (hb r) e0 ⟨fun r1 e1 => @W _ n e1 ⟨fun s e2 => @W _ (hb s) e2 ⟨fun r2 e3 => @W _ o e3 ⟨fun t f0 => @W _ (hb t) f0 ⟨fun r3 f1 => @W _ w f1 ⟨fun x f2 => @W _ (hb x) f2 ⟨fun r4 f3 => @W _ (gN k r4) f3 ⟨fun _ f4 => @W _ (gN l r3) f4 ⟨fun _ f5 => @W _ (gN j r2) f5 ⟨fun _ f6 => @W _ (gN i r1) f6 ⟨fun _ f7 => Q .nx f7⟩⟩⟩⟩⟩⟩⟩⟩⟩⟩⟩⟩ := by
  unfold sPF4
  simp only [W_eq, bd]
  cases m e with
  | none => rfl
  | some p =>
    dsimp only
    cases hb p.1 p.2 with
    | none => rfl
    | some q =>
      dsimp only
      cases n q.2 with
      | none => rfl
      | some s =>
        dsimp only
        cases hb s.1 s.2 with
        | none => rfl
        | some z =>
          dsimp only
          cases o z.2 with
          | none => rfl
          | some a =>
            dsimp only
            cases hb a.1 a.2 with
            | none => rfl
            | some b =>
              dsimp only
              cases w b.2 with
              | none => rfl
              | some c =>
                dsimp only
                cases hb c.1 c.2 with
                | none => rfl
                | some d =>
                  dsimp only
                  cases gN k d.1 d.2 with
                  | none => rfl
                  | some f =>
                    dsimp only
                    cases gN l b.1 f.2 with
                    | none => rfl
                    | some h =>
                      dsimp only
                      cases gN j z.1 h.2 with
                      | none => rfl
                      | some h2 =>
                        dsimp only
                        cases gN i q.1 h2.2 <;> rfl
end PD
namespace HT
open PySem PySem.Spec PyProof.Rows
section
variable {prog : Program} {w : World} {A : Around} {E : Value → Shared → Prop} {s : Shared}
end
end HT
namespace PD
variable [PD.TabL]
open PySem PySem.Spec PyProof.Rows L2
section
variable {X : Cx}
end
def rev7D : D → Option D
  | .tup [d1, d2, d3, d4, d5, d6, d7] => some (.tup [d7, d6, d5, d4, d3, d2, d1])
  | _ => none
def eRev7 (ma : M Vl) : M Vl := bd ma fun r e => match cnt e r.hold with
  | some d => match rev7D d with
    | some d' => some (.im d', e)
    | none => none
  | none => none
theorem W_eRev7 {ma : M Vl} {e : Env} {Q : Vl → Env → Prop} : @W _ (eRev7 ma) e ⟨Q⟩ = @W _ ma e ⟨fun r e1 => @WO _ (cnt e1 r.hold) ⟨fun d => @WO _ (rev7D d) ⟨fun d' => Q (.im d') e1⟩⟩⟩ := by
  unfold eRev7
  simp only [W_eq, WO_eq, bd]
  cases ma e with
  | none => rfl
  | some p =>
    dsimp only
    try rw [WO_eq]
    cases cnt p.2 p.1.hold with
    | none => rfl
    | some d =>
      dsimp only
      try rw [WO_eq]
      cases rev7D d <;> rfl
section
variable {g : G0} {c : Ct} {a : Expr} {k : Nat} {p1 p2 p3 pos : Pos} {ma : M Vl}
end

def bI (b : Bool) : Int := if b = true then 1 else 0
def addND : List D → Option Vl
  | [.int i, .int j] => some (.im (.int (i + j)))
  | [.bl b, .int j] => some (.im (.int (bI b + j)))
  | _ => none
def subND : List D → Option Vl
  | [.int i, .int j] => some (.im (.int (i - j)))
  | [.bl b, .int j] => some (.im (.int (bI b - j)))
  | _ => none
end PD
namespace PD
variable [PD.TabL]
open PySem PySem.Spec PyProof.Rows L2

section
variable {prog : Program} {w : World} {A : Around} {s : Shared}
end
section
variable {X : Cx} {pins : List (Addr × Obj)} {σ : L2.St} {H : Hp} {s : Shared}
end
section
variable {X : Cx}
end
end PD
namespace PD
open PySem PySem.Spec PyProof.Rows L2

/-- the tables of cs, with the names that they tell -/
@[reducible] def tabL (cs : List (Addr × Addr × Str)) : TabL := ⟨cs.map fun p => p.2, fun _ => none⟩
end PD
namespace PD
variable [PD.TabL]
open PySem PySem.Spec PyProof.Rows L2
end PD
namespace PD
variable [PD.TabL]
open PySem PySem.Spec PyProof.Rows L2

inductive EntI : List DictEntry → List (Str × Int) → Prop
  | nil : EntI [] []
  | cons {e : DictEntry} {r : List DictEntry} {x : Str} {i : Int} {t t2 : Tok} {es : List (Str × Int)} : e.key = .str x t → e.val = .int i t2 → EntI r es → EntI (e :: r) ((x, i) :: es)
structure GVK (g : G0) (x : Str) (es : List (Str × Int)) : Prop where
  ex : ∃ (a : Addr) (arr : Array DictEntry) (n : Nat), g.mg x = some (.ref a) ∧ g.K.lookup a = some ⟨.type "dict", none, .dict arr n, #[]⟩ ∧ PySem.W.KeysLit g.w.params arr.toList ∧ (a == sysModules) = false ∧ EntI arr.toList es
end PD
namespace PD
variable [PD.TabL]
open PySem PySem.Spec PyProof.Rows L2

end PD
namespace PD
variable [PD.TabL]
open PySem PySem.Spec PyProof.Rows L2

end PD
namespace PD
variable [PD.TabL]
open PySem PySem.Spec PyProof.Rows L2

def lstLF : D → Bool
  | .lst cs => LFs cs
  | _ => false
def cNn : M (List D) := rt []
def cAn (m : M Vl) (ms : M (List D)) : M (List D) := bd m fun r => match r with
  | .fr d => bd ms fun ds => rt (d :: ds)
  | _ => fun _ => none
section
variable {K : PySem.W.Frag} {A : Anc} {B H : Hp} {σ τ : L2.St} {env pe : Env}
end
section
variable (g : G0) (c : Ct)
end
section
variable {g : G0} {c : Ct} {e : Expr} {es : List Expr} {pos p1 : Pos} {m : M Vl} {ms : M (List D)} {f : Nat} {mr : RM} {r : List Stmt}
end
section
variable {e : Env} {Q : Fl → Env → Prop} {f : Nat} {m : M Vl} {ms : M (List D)} {rm : RM}
def frK (P : D → Prop) : Vl → Prop
  | .fr d => P d
  | _ => False
theorem frK_fr {P : D → Prop} {d : D} : frK P (.fr d) = P d := rfl
theorem W_cNn {Q : List D → Env → Prop} : @W _ cNn e ⟨Q⟩ = Q [] e := W_eq
theorem W_cAn {Q : List D → Env → Prop} : @W _ (cAn m ms) e ⟨Q⟩ = @W _ m e ⟨fun r e1 => frK (fun d => @W _ ms e1 ⟨fun ds e2 => Q (d :: ds) e2⟩) r⟩ := by
  simp only [W_eq]
  unfold cAn bd
  cases m e with
  | none => rfl
  | some p =>
    obtain ⟨r, e1⟩ := p
    cases r with
    | fr d =>
      dsimp only [frK]
      cases ms e1 with
      | none => rfl
      | some p => rfl
    | _ => rfl
end
end PD
namespace PD
variable [PD.TabL]
open PySem PySem.Spec PyProof.Rows L2

def atomV : D → Bool
  | .dk es => es.all fun x => x.2.atom
  | .dt es => es.all fun x => x.2.atom
  | .lst ds => ds.all D.atom
  | _ => false
section
variable {K : PySem.W.Frag} {A : Anc} {B H : Hp} {σ τ : L2.St} {env pe : Env}
/-- slot f holds a new list of new lists; all else stands as ahead, no old list is told -/
structure RGN (K : PySem.W.Frag) (A : Anc) (f : Nat) (B H : Hp) (env : Env) (σ : L2.St) (d : D) : Prop where
  hf : f < env.length
  ef : env[f]? = some .em
  len : σ.length = env.length
  ex : ∃ (Hs B2 : Hp) (q : Addr), Same B Hs ∧ (∀ a, Hs a = none → A.H0 a = none) ∧
    (∀ H' : Hp, (∀ a o, Hs a = some o → H' a = some o) → (∀ q ∈ TabL.T, LamX.TabS H' q.1 q.2) → SR K A B H' σ env) ∧
    (∀ (i : Nat) (sl : Sl) (p : Addr), env[i]? = some sl → sl.mut = true → σ[i]? = some (some (V.ref p)) → ∃ o, Hs p = some o) ∧
    SR K ⟨Hs, fun _ => none, fun _ => none⟩ B2 H σ ((emp env.length).set f (.im d)) ∧ σ[f]? = some (some (.ref q)) ∧ Hs q = none
abbrev RN := Env → D → Option (Fl × Env)
end
section
variable (g : G0) (c : Ct)
end
section
variable {g : G0} {c : Ct} {V : List Nat} {e : Expr} {es : List Expr} {pos p1 : Pos} {m : SM} {s : Stmt} {ms : M (List D)} {f u : Nat} {mr : RN} {mR : RM} {r : List Stmt}
end
section
variable {e : Env} {Q : Fl → Env → Prop} {f u : Nat} {V : List Nat} {m : SM} {ms : M (List D)} {rm : RN} {d : D}
/-- what a run leaves in slot u -/
def nxK (P : Prop) : Fl → Prop
  | .nx => P
  | _ => False
theorem nxK_nx {P : Prop} : nxK P .nx = P := rfl
end
end PD
namespace PD
variable [PD.TabL]
open PySem PySem.Spec PyProof.Rows L2

section
variable {X : Cx}
end
end PD
namespace PD
variable [PD.TabL]
open PySem PySem.Spec PyProof.Rows L2

def tyF : D → Bool
  | .kf _ => true
  | .tf _ => true
  | _ => false
def ckF (r : Vl) : M Unit := fun e => match cnt e r with
  | some d => if tyF d = true then some ((), e) else none
  | none => none
def eMf (f : List D → Option Vl) (m : M Vl) (ms : M (List Vl)) : M Vl := bd m fun r => bd (ckF r.hold) fun _ => bd ms fun rs e => match cnts e (r.hold :: rs) with
  | some ds => match f ds with
    | some (.im d) => some (.im d, e)
    | some (.fr d) => some (.fr d, e)
    | _ => none
  | none => none
section
variable {K : PySem.W.Frag} {A : Anc}
end
section
variable {g : G0} {c : Ct} {o e : Expr} {es : List Expr} {m : M Vl} {ms : M (List Vl)} {pos apos : Pos} {T id : String} {name : Str} {f : List D → Option Vl}
end
section
variable {e : Env}
theorem W_ckF {r : Vl} {Q : Unit → Env → Prop} : @W _ (ckF r) e ⟨Q⟩ = @WO _ (cnt e r) ⟨fun d => @WC (tyF d) ⟨Q () e⟩⟩ := by
  unfold ckF
  simp only [W_eq, WO_eq]
  cases cnt e r with
  | none => rfl
  | some d =>
    dsimp only
    unfold WC
    cases tyF d <;> simp
theorem W_eMf {f : List D → Option Vl} {m : M Vl} {ms : M (List Vl)} {Q : Vl → Env → Prop} : @W _ (eMf f m ms) e ⟨Q⟩ = @W _ m e ⟨fun r e1 => @W _ (ckF r.hold) e1 ⟨fun _ e2 => @W _ ms e2 ⟨fun rs e3 => @WO _ (cnts e3 (r.hold :: rs)) ⟨fun ds => @WO _ (f ds) ⟨fun v => match v with | .im d => Q (.im d) e3 | .fr d => Q (.fr d) e3 | .bo _ => False⟩⟩⟩⟩⟩ := by
  unfold eMf
  simp only [W_eq, WO_eq, bd]
  cases m e with
  | none => rfl
  | some p =>
    obtain ⟨r, e1⟩ := p
    dsimp only
    cases ckF r.hold e1 with
    | none => rfl
    | some q =>
      obtain ⟨q, e2⟩ := q
      dsimp only
      cases ms e2 with
      | none => rfl
      | some w =>
        obtain ⟨w, e3⟩ := w
        dsimp only
        cases cnts e3 (r.hold :: w) with
        | none => rfl
        | some ds =>
          dsimp only
          cases f ds with
          | none => rfl
          | some v => cases v <;> rfl
end
end PD
namespace PD
variable [PD.TabL]
open PySem PySem.Spec PyProof.Rows L2

def lkD : D → Option D
  | .dk es => some (.kf es)
  | .dt es => some (.tf es)
  | _ => none
def eTmpD (i : Nat) (m : M Vl) : M Vl := fun e => match e[i]? with
  | some (.ow d) => match lkD d with
    | some d' => match m ((e.map Sl.frz).set i (.im d')) with
      | some (.fr (.lst ys), _) => if ys.all D.atom = true then some (.fr (.lst ys), e) else none
      | _ => none
    | none => none
  | _ => none
section
variable {K : PySem.W.Frag}
end
theorem W_eTmpD {e : Env} {i : Nat} {m : M Vl} {Q : Vl → Env → Prop} : @W _ (eTmpD i m) e ⟨Q⟩ = @WO _ e[i]? ⟨fun sl => match sl with
    | .ow (.dk es) => @WO _ (setO (e.map Sl.frz) i (.im (.kf es))) ⟨fun e0 => @W _ m e0 ⟨fun r _ => match r with | .fr (.lst ys) => @WC (ys.all D.atom) ⟨Q (.fr (.lst ys)) e⟩ | _ => False⟩⟩
    | .ow (.dt es) => @WO _ (setO (e.map Sl.frz) i (.im (.tf es))) ⟨fun e0 => @W _ m e0 ⟨fun r _ => match r with | .fr (.lst ys) => @WC (ys.all D.atom) ⟨Q (.fr (.lst ys)) e⟩ | _ => False⟩⟩
    | _ => False⟩ := by
  have sO : ∀ {l : Env} {i : Nat} {x : Sl}, i < l.length → setO l i x = some (l.set i x) := fun {l i x} h => by
    rw [← setO_ok, if_pos h]
  rw [W_eq, WO_eq]
  unfold eTmpD
  cases he : e[i]? with
  | none => rfl
  | some sl =>
    have hil := (List.getElem?_eq_some_iff.mp he).1
    cases sl with
    | ow d =>
      cases d <;> try rfl
      · dsimp only [lkD]
        rw [sO (by rw [List.length_map]; exact hil), WO_some, W_eq]
        generalize m _ = z
        cases z with
        | none => rfl
        | some p =>
          obtain ⟨r, e1⟩ := p
          cases r with
          | im d => rfl
          | bo i => rfl
          | fr d =>
            cases d <;> try rfl
            rename_i ys
            dsimp only
            unfold WC
            cases ys.all D.atom <;> simp
      · dsimp only [lkD]
        rw [sO (by rw [List.length_map]; exact hil), WO_some, W_eq]
        generalize m _ = z
        cases z with
        | none => rfl
        | some p =>
          obtain ⟨r, e1⟩ := p
          cases r with
          | im d => rfl
          | bo i => rfl
          | fr d =>
            cases d <;> try rfl
            rename_i ys
            dsimp only
            unfold WC
            cases ys.all D.atom <;> simp
    | _ => rfl
end PD
namespace PD
variable [PD.TabL]
open PySem PySem.Spec PyProof.Rows L2

def getI : D → D → Option Int
  | .dk es, k => match keyD k with
    | some k => match getK es k with
      | some (.int a) => some a
      | _ => none
    | none => none
  | .dt es, .tup ks => match keysD ks with
    | some k => match getK es k with
      | some (.int a) => some a
      | _ => none
    | none => none
  | _, _ => none
def mAugS (f : Int → Int → Int) (mo mi me : M Vl) : M Unit := bd mo fun r0 => match r0 with
  | .bo i => bd mi fun r1 => bd (frz r1.hold) fun k e2 => match mutAtD e2 i with
    | some d0 => match getI d0 k with
      | some a => bd me (fun r2 e3 => match r2 with
        | .im (.int b) => match mutAtD e3 i with
          | some d1 => match setDk d1 k (.int (f a b)) with
            | some d' => some ((), putC e3 i d')
            | none => none
          | none => none
        | _ => none) e2
      | none => none
    | none => none
  | _ => fun _ => none
def sAugS (f : Int → Int → Int) (mo mi me : M Vl) : SM := fun e => match mAugS f mo mi me e with
  | some (_, e') => some (.nx, e')
  | none => none
section
variable {K : PySem.W.Frag} {A : Anc}
end
section
variable {g : G0} {c : Ct} {o i e : Expr} {mo mi me : M Vl} {pos pos' : Pos}
end
theorem W_sAugS {e : Env} {f : Int → Int → Int} {mo mi me : M Vl} {Q : Fl → Env → Prop} : @W _ (sAugS f mo mi me) e ⟨Q⟩ = @W _ mo e ⟨fun r0 e1 => match r0 with
    | .bo i => @W _ mi e1 ⟨fun r1 e1' => @W _ (frz r1.hold) e1' ⟨fun k e2 => @WO _ (mutAtD e2 i) ⟨fun d0 => @WO _ (getI d0 k) ⟨fun a => @W _ me e2 ⟨fun r2 e3 => match r2 with
      | .im (.int b) => @WO _ (mutAtD e3 i) ⟨fun d1 => @WO _ (setDk d1 k (.int (f a b))) ⟨fun d' => Q .nx (putC e3 i d')⟩⟩
      | _ => False⟩⟩⟩⟩⟩
    | _ => False⟩ := by
  unfold sAugS mAugS
  simp only [W_eq, WO_eq, bd]
  cases mo e with
  | none => rfl
  | some p =>
    obtain ⟨r0, e1⟩ := p
    cases r0 with
    | im d => rfl
    | fr d => rfl
    | bo i =>
      simp only [bd]
      cases mi e1 with
      | none => rfl
      | some q =>
        obtain ⟨r1, e2⟩ := q
        dsimp only
        cases frz r1.hold e2 with
        | none => rfl
        | some w =>
          obtain ⟨k, e3⟩ := w
          dsimp only
          cases mutAtD e3 i with
          | none => rfl
          | some d0 =>
            dsimp only
            cases getI d0 k with
            | none => rfl
            | some a =>
              dsimp only
              cases me e3 with
              | none => rfl
              | some z =>
                obtain ⟨r2, e4⟩ := z
                dsimp only
                cases r2 with
                | fr d => rfl
                | bo j => rfl
                | im d =>
                  cases d <;> try rfl
                  rename_i b
                  dsimp only
                  cases mutAtD e4 i with
                  | none => rfl
                  | some d1 =>
                    dsimp only
                    cases setDk d1 k (.int (f a b)) <;> rfl
end PD
namespace PD
variable [PD.TabL]
open PySem PySem.Spec PyProof.Rows L2

def mDi (m : M Vl) : M (List D) := fun e => match m e with
  | some (.bo i, e1) => match e1[i]? with
    | some (.ow (.dk es)) => if (es.all fun x => keyOk x.1) = true then some (es.map itD, e1.set i (.im (.kf es))) else none
    | some (.im (.kf es)) => if (es.all fun x => keyOk x.1) = true then some (es.map itD, e1) else none
    | _ => none
  | some (.im (.kf es), e1) => if (es.all fun x => keyOk x.1) = true then some (es.map itD, e1) else none
  | _ => none
theorem W_mDi {e : Env} {m : M Vl} {Q : List D → Env → Prop} : @W _ (mDi m) e ⟨Q⟩ = @W _ m e ⟨fun r e1 => match r with
    | .bo i => @WO _ e1[i]? ⟨fun sl => match sl with
      | .ow (.dk es) => @WC (es.all fun x => keyOk x.1) ⟨@WO _ (setO e1 i (.im (.kf es))) ⟨fun e2 => Q (es.map itD) e2⟩⟩
      | .im (.kf es) => @WC (es.all fun x => keyOk x.1) ⟨Q (es.map itD) e1⟩
      | _ => False⟩
    | .im (.kf es) => @WC (es.all fun x => keyOk x.1) ⟨Q (es.map itD) e1⟩
    | _ => False⟩ := by
  have sO : ∀ {l : Env} {i : Nat} {sl x : Sl}, l[i]? = some sl → setO l i x = some (l.set i x) := fun {l i sl x} h => by
    rw [← setO_ok, if_pos (List.getElem?_eq_some_iff.mp h).1]
  unfold mDi
  simp only [W_eq]
  cases m e with
  | none => rfl
  | some p =>
    obtain ⟨r, e1⟩ := p
    cases r with
    | fr d => rfl
    | im d =>
      cases d <;> try rfl
      rename_i es
      dsimp only
      generalize List.all _ _ = c
      cases c <;> simp [WC]
    | bo i =>
      dsimp only
      rw [WO_eq]
      cases hs : e1[i]? with
      | none => rfl
      | some sl =>
        cases sl with
        | em => rfl
        | io j d => rfl
        | im d =>
          cases d <;> try rfl
          dsimp only
          generalize List.all _ _ = c
          cases c <;> simp [WC]
        | ow d =>
          cases d <;> try rfl
          dsimp only
          rw [sO hs, WO_some]
          generalize List.all _ _ = c
          cases c <;> simp [WC]

end PD
namespace PD
variable [PD.TabL]
open PySem PySem.Spec PyProof.Rows L2

mutual
/-- no walked dict within -/
def noKf : D → Bool
  | .kf _ => false
  | .tf _ => false
  | .ex _ _ _ => false
  | .cl _ => false
  | .tup ds => noKfs ds
  | .lst ds => noKfs ds
  | .tp ds => noKfs ds
  | .dk es => noKfk es
  | .dt es => noKft es
  | _ => true
def noKfs : List D → Bool
  | [] => true
  | d :: ds => noKf d && noKfs ds
def noKfk : List (Key × D) → Bool
  | [] => true
  | e :: es => noKf e.2 && noKfk es
def noKft : List (List Key × D) → Bool
  | [] => true
  | e :: es => noKf e.2 && noKft es
end
section
variable {K : PySem.W.Frag} {B B' : Hp}
end
def noKfS : Sl → Bool
  | .em => true
  | .im d => noKf d
  | .ow d => noKf d
  | .io _ d => noKf d
def sLkS (u : Nat) (m : SM) : SM := fun e => match e[u]? with
  | some (.ow d) => match lkD d with
    | some d' => match m (e.set u (.im d')) with
      | some (.nx, e1) => if (e1.set u .em).all noKfS = true then some (.nx, e1.set u (.ow d)) else none
      | _ => none
    | none => none
  | _ => none
section
variable {K : PySem.W.Frag} {A : Anc}
end
section
variable {g : G0} {c : Ct} {V : List Nat} {e : Expr} {pos : Pos} {m : M Vl} {n : SM} {s : Stmt}
end
theorem W_sLkS {e : Env} {u : Nat} {m : SM} {Q : Fl → Env → Prop} : @W _ (sLkS u m) e ⟨Q⟩ = @WO _ e[u]? ⟨fun sl => match sl with
    | .ow (.dk es) => @WO _ (setO e u (.im (.kf es))) ⟨fun e0 => @W _ m e0 ⟨fun fl e1 => match fl with | .nx => @WC ((e1.set u .em).all noKfS) ⟨Q .nx (e1.set u (.ow (.dk es)))⟩ | _ => False⟩⟩
    | .ow (.dt es) => @WO _ (setO e u (.im (.tf es))) ⟨fun e0 => @W _ m e0 ⟨fun fl e1 => match fl with | .nx => @WC ((e1.set u .em).all noKfS) ⟨Q .nx (e1.set u (.ow (.dt es)))⟩ | _ => False⟩⟩
    | _ => False⟩ := by
  have sO : ∀ {l : Env} {i : Nat} {x : Sl}, i < l.length → setO l i x = some (l.set i x) := fun {l i x} h => by
    rw [← setO_ok, if_pos h]
  rw [W_eq, WO_eq]
  unfold sLkS
  cases he : e[u]? with
  | none => rfl
  | some sl =>
    have hil := (List.getElem?_eq_some_iff.mp he).1
    cases sl with
    | ow d =>
      cases d <;> try rfl
      · dsimp only [lkD]
        rw [sO hil, WO_some, W_eq]
        generalize m _ = z
        cases z with
        | none => rfl
        | some p =>
          obtain ⟨fl, e1⟩ := p
          cases fl <;> try rfl
          dsimp only
          generalize List.all _ _ = cc
          cases cc <;> simp [WC]
      · dsimp only [lkD]
        rw [sO hil, WO_some, W_eq]
        generalize m _ = z
        cases z with
        | none => rfl
        | some p =>
          obtain ⟨fl, e1⟩ := p
          cases fl <;> try rfl
          dsimp only
          generalize List.all _ _ = cc
          cases cc <;> simp [WC]
    | _ => rfl
end PD
namespace PD
variable [PD.TabL]
open PySem PySem.Spec PyProof.Rows L2

section
variable {P : Program} {w : World} {A : Around} {E : Value → Shared → Prop} {s : Shared}
end
end PD
namespace PD
variable [PD.TabL]
open PySem PySem.Spec PyProof.Rows L2
end PD
namespace PD
variable [PD.TabL]
open PySem PySem.Spec PyProof.Rows L2
section
variable {prog : Program} {w : World} {A : Around} {E : Value → Shared → Prop} {s : Shared}
end
section
variable {X : Cx}
end
end PD
namespace PD
variable [PD.TabL]
open PySem PySem.Spec PyProof.Rows L2
def dropM : Env → Env
  | [] => []
  | .ow _ :: r => .em :: dropM r
  | .io _ _ :: r => .em :: dropM r
  | .em :: r => .em :: dropM r
  | .im d :: r => .im d :: dropM r
def only : Nat → Env → Env
  | _, [] => []
  | 0, s :: r => s :: dropM r
  | u + 1, .ow _ :: r => .em :: only u r
  | u + 1, .io _ _ :: r => .em :: only u r
  | u + 1, .em :: r => .em :: only u r
  | u + 1, .im d :: r => .im d :: only u r
def eTmpU (u : Nat) (m : M Vl) : M Vl := fun e => match m ((only u e).map Sl.frz) with
  | some (.im d, _) => if apT (mutL (only u e)) d = true then some (.im d, e) else none
  | some (.fr (.lst ds), _) => if apTs (mutL (only u e)) ds = true then some (.fr (.lst ds), e) else none
  | _ => none
section
variable {K : PySem.W.Frag} {A : Anc} {B H : Hp} {σ τ : L2.St} {env pe : Env}
end
theorem W_eTmpU {e : Env} {u : Nat} {m : M Vl} {Q : Vl → Env → Prop} : @W _ (eTmpU u m) e ⟨Q⟩ = @WO _ (some ((only u e).map Sl.frz)) ⟨fun e0 => @W _ m e0 ⟨fun r _ => match r with
    | .im d => @WC (apT (mutL (only u e)) d) ⟨Q (.im d) e⟩
    | .fr (.lst ds) => @WC (apTs (mutL (only u e)) ds) ⟨Q (.fr (.lst ds)) e⟩
    | _ => False⟩⟩ := by
  unfold eTmpU
  simp only [W_eq, WO_eq, WC_eq]
  cases m ((only u e).map Sl.frz) with
  | none => rfl
  | some p =>
    obtain ⟨r, e'⟩ := p
    cases r with
    | im d =>
      dsimp only
      cases apT (mutL (only u e)) d <;> simp
    | fr d =>
      cases d with
      | lst ds =>
        dsimp only
        cases apTs (mutL (only u e)) ds <;> simp
      | _ => rfl
    | bo i => rfl
end PD
namespace PD
variable [PD.TabL]
open PySem PySem.Spec PyProof.Rows L2
section
variable {K : PySem.W.Frag} {A : Anc} {B H : Hp} {σ τ : L2.St} {env pe : Env}
/-- slot f holds a told thing; all else stands as ahead -/
structure RGJ (K : PySem.W.Frag) (A : Anc) (f : Nat) (B H : Hp) (env : Env) (σ : L2.St) (d : D) (L : List D) : Prop where
  hf : f < env.length
  ef : env[f]? = some .em
  len : σ.length = env.length
  ex : ∃ (Hs Bm B2 : Hp),
    (∀ H' : Hp, (∀ a o, Hs a = some o → H' a = some o) → (∀ q ∈ TabL.T, LamX.TabS H' q.1 q.2) → SR K A B H' σ env) ∧
    (∀ a xs, Bm a = some (HO.lst xs) → ∃ dl ∈ L, Rp K Bm dl (.ref a)) ∧
    Same Bm B2 ∧ SR K ⟨Hs, Bm, fun _ => none⟩ B2 H σ ((emp env.length).set f (.im d))
end
section
variable (g : G0) (c : Ct)
end
section
variable {g : G0} {c : Ct} {V : List Nat} {e o ec : Expr} {es : List Expr} {pos apos pos2 pos3 : Pos} {m n : SM} {mt : M Bool} {me mo : M Vl} {ms : M (List Vl)} {s : Stmt} {ss r : List Stmt} {f : Nat} {mr : RM} {id : String} {name : Str} {gf : D → List D → Option (D × D)}
end
section
variable {e : Env} {Q : Fl → Env → Prop} {f : Nat} {m1 mo : M Vl} {mt : M Bool} {ms : M (List Vl)} {mr : SM} {rm : RM} {d : D} {L : List D} {ks : List Nat} {gf : D → List D → Option (D × D)}
end
end PD
namespace PD
variable [PD.TabL]
open PySem PySem.Spec PyProof.Rows L2
def seqZ : D → Option (List D)
  | .lst ds => some ds
  | .fe => some []
  | _ => none
def mLz (m : M Vl) : M (List D) := bd m fun r => bd (frz r.hold) fun d e => (seqZ d).map fun l => (l, e)
section
variable {g : G0} {c : Ct} {e : Expr} {m : M Vl}
end
theorem W_mLz {m : M Vl} {e : Env} {Q : List D → Env → Prop} : @W _ (mLz m) e ⟨Q⟩ = @W _ m e ⟨fun r e1 => @W _ (frz r.hold) e1 ⟨fun d e2 => @WO _ (seqZ d) ⟨fun l => Q l e2⟩⟩⟩ := by
  unfold mLz
  simp only [W_eq, WO_eq, bd]
  cases m e with
  | none => rfl
  | some p =>
    dsimp only
    try rw [W_eq]
    cases frz p.1.hold p.2 with
    | none => rfl
    | some q =>
      dsimp only
      cases seqZ q.1 <;> rfl

section
variable {K : PySem.W.Frag} {A : Anc} {B H : Hp} {σ τ : L2.St} {env pe : Env} {VV : List Nat}
end
section
variable (g : G0) (c : Ct)
end
section
variable {g : G0} {c : Ct} {V VV : List Nat} {e o ec : Expr} {es : List Expr} {pos apos pos2 pos3 : Pos} {m n : SM} {mt : M Bool} {me mo : M Vl} {ms : M (List Vl)} {s : Stmt} {ss r : List Stmt} {f : Nat} {mr : RM} {id : String} {name : Str} {gf : D → List D → Option (D × D)}
end
end PD
namespace PD
variable [PD.TabL]
open PySem PySem.Spec PyProof.Rows L2
section
variable {K : PySem.W.Frag} {B B' : Hp}
end
section
variable {K : PySem.W.Frag} {A : Anc}
end
section
variable {g : G0} {c : Ct} {V : List Nat} {n : SM} {s : Stmt}
end
end PD
namespace PD
variable [PD.TabL]
open PySem PySem.Spec PyProof.Rows L2
section
variable {X : Cx}
end
section
variable {g : G0} {c : Ct} {o : Expr} {m : M Vl} {p p2 pos pos2 : Pos}
end
end PD
namespace PD
variable [PD.TabL]
open PySem PySem.Spec PyProof.Rows L2
section
variable {X : Cx}
end
end PD
namespace PD
variable [PD.TabL]
open PySem PySem.Spec PyProof.Rows L2
end PD
namespace PD
variable [PD.TabL]
open PySem PySem.Spec PyProof.Rows L2
abbrev IsMt (P : Program) (w : World) (h : Heap) (k : List Key) (b : Addr) : Prop := IsTupleKey (mixKind P w) h k b
abbrev mH (P : Program) (w : World) (k : List Key) : Int := tupleKeyHash (mixKind P w) k
section
variable {P : Program} {w : World} {A : Around} {E : Value → Shared → Prop} {s : Shared}
def rowsM (P : Program) (w : World) (L : List (Addr × List Key)) : List (Int × Value) := L.map fun p => (mH P w p.2, Value.ref p.1)
/-- a set of tuples, with its table -/
structure SetM (P : Program) (w : World) (h : Heap) (a : Addr) (L : List (Addr × List Key)) (es : Array (Int × Value)) (ep : Nat) (t : SetTable) : Prop where
  ob : ∃ o, h.get? a = some o ∧ o.ExactSet ∧ o.data = .set es ep t
  rows : es.toList = rowsM P w L
  tab : TabOk t (L.map fun p => mH P w p.2)
  nd : (L.map (·.2)).Nodup
  tup : ∀ p ∈ L, IsMt P w h p.2 p.1
  led : w.params.followText "set-order" = true ∨ t.led = true
  room : L.length * 5 < t.mask * 3
  few : L.length < 64
variable {a : Addr} {L : List (Addr × List Key)} {es : Array (Int × Value)} {ep : Nat} {t : SetTable}
end
end PD
namespace PD
variable [PD.TabL]
open PySem PySem.Spec PyProof.Rows L2
section
variable {P : Program} {w : World} {A : Around} {E : Value → Shared → Prop} {s : Shared}
variable {a : Addr} {L : List (Addr × List Key)} {es : Array (Int × Value)} {ep : Nat} {t : SetTable}
end
end PD
namespace PD
variable [PD.TabL]
open PySem PySem.Spec PyProof.Rows L2
theorem IsMt.keep {P : Program} {w : World} {h h' : Heap} {k : List Key} {b : Addr} (x : IsMt P w h k b) (hk : ∀ c o, h.get? c = some o → h'.get? c = some o) : IsMt P w h' k b := by
  obtain ⟨o, its, n, ho, r⟩ := x
  exact ⟨o, its, n, hk b o ho, r⟩
theorem SetM.keep {P : Program} {w : World} {h h' : Heap} {a : Addr} {L : List (Addr × List Key)} {es : Array (Int × Value)} {ep : Nat} {t : SetTable} (R : SetM P w h a L es ep t) (ha : ∀ o, h.get? a = some o → h'.get? a = some o) (ht : ∀ p ∈ L, IsMt P w h' p.2 p.1) : SetM P w h' a L es ep t := by
  obtain ⟨o, ho, r⟩ := R.ob
  exact ⟨⟨o, ha o ho, r⟩, R.rows, R.tab, R.nd, ht, R.led, R.room, R.few⟩
end PD
namespace PD
variable [PD.TabL]
open PySem PySem.Spec PyProof.Rows L2
section
variable {X : Cx}
end
section
variable {g : G0} {c : Ct} {o : Expr} {m : M Vl} {p p2 pos pos2 : Pos}
end
end PD
namespace PD
variable [PD.TabL]
open PySem PySem.Spec PyProof.Rows L2
end PD
namespace PD
variable [PD.TabL]
open PySem PySem.Spec PyProof.Rows L2
end PD
namespace PD
variable [PD.TabL]
open PySem PySem.Spec PyProof.Rows L2
section
variable {K : PySem.W.Frag} {A : Anc}
end
section
variable {g : G0} {c : Ct} {o e : Expr} {es : List Expr} {m : M Vl} {ms : M (List Vl)} {pos apos : Pos}
end
end PD
namespace PD
variable [PD.TabL]
open PySem PySem.Spec PyProof.Rows L2
section
variable {prog : Program} {w : World} {A : Around} {E : Value → Shared → Prop} {s : Shared} {Q : Value → Shared → Prop}
end
end PD
namespace PD
variable [PD.TabL]
open PySem PySem.Spec PyProof.Rows L2
theorem exK_ok {P : Program} {w : World} {H : Hp} {h : Heap} {a C : Addr} {d : Option Addr} {oe : Obj} {vs : Array Value} (e : h.get? a = some oe) (z : Zc (.ref C) d oe) (q : oe.data = .fields vs) : ObjOk P w H h a (ExK C d a) :=
  ⟨⟨oe, vs, e, z, q⟩, ⟨oe, e⟩, fun _ _ ⟨o, v, q1, r1⟩ k => ⟨o, v, k o q1, r1⟩⟩
section
variable {X : Cx} {pins : List (Addr × Obj)} {σ : L2.St} {H : Hp} {s : Shared}
/-- what came to stand at an address since the def began is looked at from now on -/
theorem seen {a C : Addr} {d : Option Addr} {oe : Obj} {vs : Array Value} (I : Inv X pins σ H s) (na : H a = none) (n0 : X.s_0.heap.get? a = none)
    (e : s.heap.get? a = some oe) (z : Zc (.ref C) d oe) (q : oe.data = .fields vs) (nL : a ≠ X.env.locals) (nP : ∀ p ∈ X.pn ++ pins, p.1 ≠ a) : Inv X pins σ (upd H a (ExK C d a)) s := by
  have ne : ∀ {b u}, X.s_0.heap.get? b = some u → b ≠ a := fun {b u} e1 e2 => by
    rw [e2, n0] at e1
    cases e1
  refine ⟨I.ok, I.os, I.bare, ⟨I.base.keep, I.base.slot, fun b u e1 n1 x1 => ?_, I.base.there, fun b xs e1 => ?_, fun b u xs e1 => ?_, fun b ps e1 => ?_⟩, I.loc, I.cell, ?_, fun x c e1 => ?_, fun p hp => ?_, ?_, I.len⟩
  · rw [upd_ne (ne e1)]
    exact I.base.free b u e1 n1 x1
  · have e2 := I.base.tups b xs e1
    rw [upd_ne (ne_of_none e2 na)]
    exact e2
  · have e2 := I.base.frzs b u xs e1
    rw [upd_ne (ne_of_none e2 na)]
    exact e2
  · obtain ⟨more, e2⟩ := I.base.tbls b ps e1
    refine ⟨more, ?_⟩
    rw [upd_ne (ne_of_none e2 na)]
    exact e2
  · rw [upd_ne fun z => nL z.symm]
    exact I.free
  · obtain ⟨v, o, e2, e3⟩ := I.cell x c e1
    rw [upd_ne fun z => by
      rw [z, e] at e2
      cases e2
      rw [q] at e3
      cases e3]
    exact I.freeC x c e1
  · obtain ⟨p1, p2, p3, p4, p5⟩ := I.pin p hp
    exact ⟨p1, by rw [upd_ne (nP p hp)]; exact p2, p3, p4, p5⟩
  · exact HOk.laidN I.hok (fun _ _ k => k) na (exK_ok e z q)
end
/-- 'except x as n: m = n' of an error of the body: slot i is n's, slot j m's -/
def wKeep (K : PySem.W.Frag) (c : Value) (i j : Nat) (D : Ends) : WX := fun cls d σ H =>
  PySem.W.exmOne K cls c = some true ∧ ∃ C, cls = .ref C ∧ ∀ a, H a = none → D.nx (((σ.set i (some (.ref a))).set j (some (.ref a))).set i none) (upd H a (ExK C d a))
section
variable {X : Cx} {x n m : Str} {c : Value} {i j : Nat} {body : List Stmt} {np n2p mp ap pos pos' : Pos} {tb : WX → TS}
theorem ps_try_keep (st : X.stack = X.env :: X.outer) (fr : X.env.frame = some X.env.locals) (nd : X.N.Nodup) (hi : X.N[i]? = some n) (li : X.env.kindOf n = some .local)
    (hj : X.N[j]? = some m) (lj : X.env.kindOf m = some .local) (hvn : Vis X.env.scope n) (hnd : (n == ("__debug__" : Str)) = false) (hnc : (n == ("__classdict__" : Str)) = false) (hex : X.ex = []) (hc : Names X x c)
    (hb : ∀ (W : WX) (pn : List (Addr × Obj)) (xe : Value → Shared → Prop), Takes (X.tr pn xe) W → PassesOwn (model X.prog X.w) X.A X.env xe → PSs (X.tr pn xe) body (tb W)) :
    PS X (.Try body [.ExceptHandler (some (.Name x np)) (some n) [.Assign [.Name m mp] (.Name n n2p) ap] pos'] [] [] pos) (fun D σ H => tb (wKeep X.K c i j D) D σ H) := by
  refine ⟨fun pins s σ H D I hD => ?_⟩
  have ok := I.ok
  have fs : X.A.frames = some (X.env :: X.outer) := ok.frames.trans (congrArg some st)
  have vn : Loc X.env.scope n := .inl li
  refine wpAny_Try_except (wpAny_mono ((hb (wKeep X.K c i j D) (X.pn ++ pins) _ (fun u s' air => ?_) PassesOwn.looking).run [] s σ H D (I.toTry _) hD) (fun f s1 hsp => ?_) fun _ _ z => z)
  · obtain ⟨a, B, sI, qs, τ, G, cls, d, rfl, JI, nb, up, sky, na, os, ag, b1, C, rfl, hn⟩ := air
    have J := JI.ofTry ok
    rw [show (X.tr (X.pn ++ pins) _).stack = X.env :: X.outer from st] at sky
    refine Sky.land Zc.steady fs fr sky fun h3 fl up3 => ?_
    have Ba := fl.2.1
    have J3 : Inv X pins τ G { s' with heap := h3 } := J.landed nb fl.1 (up.trans up3) os ag
    -- the error's object is no frame
    have noF : ∀ {h4 : Heap} {o : Obj} {vs : Array Value}, h4.FunFrames B (X.env :: X.outer) → h4.get? a = some o → o.data = .fields vs → a ∉ frs (X.env :: X.outer) := fun ff e dd hm => by
      obtain ⟨_, o2, e2, nf⟩ := ff.mem hm
      rw [e] at e2
      cases e2
      exact nf _ dd
    obtain ⟨o3, v3, e3, z3, d3⟩ := fl.there
    have a1 := noF fl.2.2.1 e3 d3
    have a2 : a ≠ X.env.locals := fun z => a1 (List.mem_filterMap.mpr ⟨X.env, List.mem_cons_self, fr.trans (congrArg some z.symm)⟩)
    have a3 : a ∉ X.fs := fun hm => by
      obtain ⟨v, hv, q⟩ := List.mem_filterMap.mp hm
      exact a1 (List.mem_filterMap.mpr ⟨v, List.mem_cons_of_mem _ hv, q⟩)
    -- nor did it stand anywhere ahead
    have aI : sI.heap.get? a = none := by
      cases q : sI.heap.get? a with
      | none => rfl
      | some o =>
        have := nb a o q (by rw [st]; exact a1)
        rw [Ba] at this
        cases this
    have a0 : X.s_0.heap.get? a = none := by
      cases q : X.s_0.heap.get? a with
      | none => rfl
      | some o =>
        obtain ⟨o', z⟩ := J.base.there a o q (by rw [hex]; exact fun z => nomatch z)
        rw [aI] at z
        cases z
    have aP : ∀ p ∈ X.pn ++ pins, p.1 ≠ a := fun p hp z => by
      have := (J.pin p hp).1
      rw [z, aI] at this
      cases this
    have S3 := J3.suite e3 d3 na a2 a3
    refine wpAny_handleBy_cons (codeAny_handlers_test ?_) fun z => nomatch z
    have look := PySem.W.exm_one (M := model X.prog X.w) J3.kIn (fun A Q E s2 k2 q2 => wpAny_typeOf_ref (k2 _ _ e3) (by rw [z3.1]; exact q2)) b1
    have tst : ∀ {Q E : Value → Shared → Prop}, Q c { s' with heap := h3 } → wpAny (model X.prog X.w) (X.A.mark (some (.ref a))) (eval (.Name x np) X.env) Q E { s' with heap := h3 } := fun {Q E} q => by
      obtain ⟨g1, g2, g3 | ⟨g3, g4, g5⟩⟩ := hc
      · exact ld_glob (X := X.suite a ((a, o3) :: (X.pn ++ pins))) S3 g1 g3 q g2
      · exact ld_blt (X := X.suite a ((a, o3) :: (X.pn ++ pins))) S3 g1 g3 g4 q g5 g2
    refine tst (look.here ?_)
    refine codeAny_handlers_suite_as (HandSPX.lands_againZ fl fun h4 fl4 up4 => ?_)
    have J4 : Inv X pins τ G { s' with heap := h4 } := J.landed nb fl4.1 ((up.trans up3).trans up4) os ag
    obtain ⟨o4, v4, e4, z4, d4⟩ := fl4.there
    have S4 := J4.suite e4 d4 na a2 a3
    refine store_ok (X := X.suite a ((a, o4) :: (X.pn ++ pins))) (v := .ref a) S4 nd hi vn rfl (fun s5 S5 => ?_) (.inr li)
    have asg : PS (X.suite a ((a, o4) :: (X.pn ++ pins))) (.Assign [.Name m mp] (.Name n n2p) ap) (tAsg (tVar i) (gName j)) := ps_asg (pe_var hi hvn hnd hnc) (pg_name nd hj (.inl lj) (.inr lj))
    refine wpAny_mono ((pss_one asg).run [] s5 _ G { nx := fun σ1 H1 => σ1 = (τ.set i (some (.ref a))).set j (some (.ref a)) ∧ H1 = G, rt := fun _ _ => False, bk := fun _ _ => False, ct := fun _ _ => False } S5 ⟨.ref a, ?_, rfl, rfl⟩) (fun f s6 hs6 => ?_) fun _ _ z => z.elim
    · have hl : i < τ.length := by rw [J.len]; exact (List.getElem?_eq_some_iff.mp hi).1
      rw [List.getElem?_set_self hl]
    · cases f with
      | next =>
        obtain ⟨σ6, H6, S6, rfl, rfl⟩ := hs6
        have pin := (S6.pin (a, o4) (by rw [List.append_nil]; exact List.mem_cons_self)).1
        have J6 := seen (S6.unsuite ok) na a0 pin z4 d4 a2 aP
        exact gone_ok J6 nd hi li fun s7 J7 => ⟨_, _, J7, hn a na⟩
      | brk =>
        obtain ⟨_, _, _, z⟩ := hs6
        exact z.elim
      | cont =>
        obtain ⟨_, _, _, z⟩ := hs6
        exact z.elim
      | ret u =>
        obtain ⟨_, _, _, _, _, z⟩ := hs6
        exact z.elim
  · cases f with
    | next =>
      obtain ⟨σ', H', J', q⟩ := hsp
      exact wpAny_execs_nil ⟨σ', H', J'.ofTry ok, q⟩
    | brk =>
      obtain ⟨σ', H', J', q⟩ := hsp
      exact ⟨σ', H', J'.ofTry ok, q⟩
    | cont =>
      obtain ⟨σ', H', J', q⟩ := hsp
      exact ⟨σ', H', J'.ofTry ok, q⟩
    | ret u =>
      obtain ⟨v, σ', H', J', r, q⟩ := hsp
      exact ⟨v, σ', H', J'.ofTry ok, r, q⟩
end
end PD
namespace PD
variable [PD.TabL]
open PySem PySem.Spec PyProof.Rows L2
/-- an error in the air: its class at C, its dict at d -/
def ExR (K : PySem.W.Frag) (A : Anc) (H : Hp) (n f : Str) (ds : List D) (C : Addr) (d : Option Addr) : Prop :=
  TabL.cls n = some C ∧ match ds, d with
    | [], none => True
    | [x], some dd => ∃ v, H dd = some (.xd [(f, v)]) ∧ (∀ B : Hp, Rp K B x v) ∧ A.H0 dd = none
    | _, _ => False
def exOf : Fl → Option (Str × Str × List D)
  | .rt (.fr (.ex n f ds)) => some (n, f, ds)
  | _ => none
theorem exOf_some {fl : Fl} {n f : Str} {ds : List D} (h : exOf fl = some (n, f, ds)) : fl = .rt (.fr (.ex n f ds)) := by
  unfold exOf at h
  split at h
  · cases h
    rfl
  · cases h
section
variable (K : PySem.W.Frag) (A : Anc)
def FPX (B : Hp) (W : WX) (E : Ends) (env' : Env) (fl : Fl) : Prop := match exOf fl with
  | some x => ∀ σ' B' H' C d, Same B B' → SR K A B' H' σ' env' → ExR K A H' x.1 x.2.1 x.2.2 C d → W (.ref C) d σ' H'
  | none => FP K A B E env' fl
def SSXw (W : WX) (t : TS) (m : SM) : Prop := ∀ (σ : L2.St) (B H : Hp) (env env' : Env) (fl : Fl) (E : Ends), SR K A B H σ env → m env = some (fl, env') → FPX K A B W E env' fl → t E σ H
end
section
variable {K : PySem.W.Frag} {A : Anc} {W : WX} {B B' : Hp} {E : Ends} {env' : Env} {fl : Fl}
theorem FPX.mono (q : FPX K A B W E env' fl) (s : Same B B') : FPX K A B' W E env' fl := by
  unfold FPX at q ⊢
  split
  · rename_i x hx
    rw [hx] at q
    exact fun σ1 B1 H1 C d s1 => q σ1 B1 H1 C d (s.trans s1)
  · rename_i hx
    rw [hx] at q
    exact FP.mono s q
/-- an error isn't told of a def that tells -/
theorem FPX.fp (q : FPX K A B W E env' fl) : FP K A B E env' fl := by
  unfold FPX at q
  split at q
  · rename_i x hx
    obtain ⟨n, f, ds⟩ := x
    rw [exOf_some hx]
    intro σ1 B1 H1 v s1 hl hv
    have hv : SR K A B1 H1 (σ1 ++ [] ++ [some v]) (env' ++ [] ++ [.ow (.ex n f ds)]) := hv
    rw [List.append_nil, List.append_nil] at hv
    have g1 : (env' ++ [Sl.ow (.ex n f ds)])[env'.length]? = some (.ow (.ex n f ds)) := by simp
    have g2 : (σ1 ++ [some v])[env'.length]? = some (some v) := by
      rw [← hl]
      simp
    cases hv.slot _ _ _ g1 g2 with
    | ow b h0 c =>
      rename_i p _
      generalize H1 p = o at c
      cases c
  · exact q
theorem sw_of {t : TS} {m : SM} (h : SSX K A t m) : SSXw K A W t m := fun σ B H env env' fl E S e q => h σ B H env env' fl E S e q.fp
theorem sw_seq {t u : TS} {m n : SM} (h : SSXw K A W t m) (h2 : SSXw K A W u n) : SSXw K A W (tSeq t u) (sSeq m n) := fun σ B H env env' fl E S e q => by
  unfold sSeq at e
  split at e
  · rename_i e1 he
    exact h σ B H env e1 .nx _ S he fun σ1 B1 H1 s1 S1 => h2 σ1 B1 H1 e1 env' fl E S1 e (q.mono s1)
  · rename_i f e1 hn he
    cases e
    refine h σ B H env env' fl _ S he ?_
    cases fl with
    | nx => exact (hn rfl).elim
    | bk => exact q
    | ct => exact q
    | rt r => exact q
  · cases e
theorem sw_if {tc : TT} {t u : TS} {c : M Bool} {m n : SM} (hc : STX K A tc c) (h : SSXw K A W t m) (h2 : SSXw K A W u n) : SSXw K A W (tIfS tc t u) (sIf c m n) := fun σ B H env env' fl E S e q => by
  unfold sIf at e
  split at e
  · rename_i b e1 he
    refine hc σ [] B H env [] e1 b _ S.nil_app S.len he fun B1 H1 s1 hl1 S1 => ?_
    cases b with
    | true =>
      rw [if_pos rfl] at e ⊢
      exact h σ B1 H1 e1 env' fl E S1.app_nil e (q.mono s1)
    | false =>
      rw [if_neg Bool.false_ne_true] at e ⊢
      exact h2 σ B1 H1 e1 env' fl E S1.app_nil e (q.mono s1)
  · cases e
theorem sw_for {ts : List Nat} {wi : TI} {t : TG} {tb : TS} {mi : M (List D)} {g : Vl → M Unit} {b : SM} (hi : SIX K A wi mi) (hg : SGX K A ts t g) (hb : SSXw K A W tb b) : SSXw K A W (tFor wi t tb) (sFor mi g b) := fun σ B H env env' fl E S e q => by
  unfold sFor at e
  split at e
  · rename_i ds e1 he
    refine hi σ [] B H env [] e1 ds _ S.nil_app S.len he fun B1 H1 J s1 hl1 S1 w => ?_
    refine ⟨fun i m σ' H' => m = ds.length - i ∧ i ≤ ds.length ∧ ∃ B' en, Same B1 B' ∧ SR K A B' H' σ' en ∧ forL g b (ds.drop i) en = some (fl, env'),
      ⟨ds.length, by omega, by omega, B1, e1, Same.refl _, S1.app_nil, by simpa using e⟩, ?_⟩
    rintro i m σ' H' ⟨rfl, hi, B2, en, s2, S2, ef⟩
    by_cases hlt : i < ds.length
    · have hd : ds.drop i = ds[i] :: ds.drop (i + 1) := List.drop_eq_getElem_cons hlt
      rw [hd] at ef
      unfold forL at ef
      split at ef
      · cases ef
      · rename_i e2 hge
        refine .inr ⟨w.goes i H' B2 hlt s2 S2.same, fun σ3 H3 => i + 1 ≤ ds.length ∧ ∃ B' en, Same B1 B' ∧ SR K A B' H3 σ3 en ∧ forL g b (ds.drop (i + 1)) en = some (fl, env'),
          fun σ3 H3 h => ⟨ds.length - (i + 1), by omega, rfl, h⟩, fun x H3 y => ?_⟩
        obtain ⟨B3, s3, S3, r3⟩ := w.yield (List.getElem?_eq_getElem hlt) s2 S2 y
        refine hg σ' [] B3 H3 en [] e2 (.im ds[i]) x _ ⟨S3.nil_app, r3⟩ S2.len hge fun σ4 B4 H4 s4 hl4 _ S4 => ?_
        have S4 := S4.app_nil
        have s14 : Same B1 B4 := (s2.trans s3).trans s4
        split at ef
        · rename_i e3 hbe
          exact hb σ4 B4 H4 e2 e3 .nx _ S4 hbe fun σ5 B5 H5 s5 S5 => ⟨by omega, B5, e3, s14.trans s5, S5, ef⟩
        · rename_i e3 hbe
          exact hb σ4 B4 H4 e2 e3 .ct _ S4 hbe fun σ5 B5 H5 s5 S5 => ⟨by omega, B5, e3, s14.trans s5, S5, ef⟩
        · rename_i e3 hbe
          cases ef
          exact hb σ4 B4 H4 e2 _ .bk _ S4 hbe fun σ5 B5 H5 s5 S5 => q.fp σ5 B5 H5 (s1.trans (s14.trans s5)) S5
        · rename_i v e3 hbe
          cases ef
          have q2 := q.mono (s1.trans s14)
          exact hb σ4 B4 H4 e2 _ (.rt v) _ S4 hbe q2
        · cases ef
    · have ei : i = ds.length := by omega
      subst ei
      rw [List.drop_length] at ef
      cases ef
      exact .inl ⟨w.stops H' B2 s2 S2.same, q.fp σ' B2 H' (s1.trans s2) S2⟩
  · cases e
end
structure CokX (g : G0) (c : Ct) (X : Cx) (W : WX) : Prop where
  ok : Cok g c X.nox
  tk : Takes X W
  po : PassesOwn (model X.prog X.w) X.A X.env X.xe
  st : X.stack = X.env :: X.outer
  fr : X.env.frame = some X.env.locals
  ex : X.ex = []
theorem ps_nx {X : Cx} {st : Stmt} {t : TS} (h : PS X.nox st t) : PS X st t :=
  ⟨fun pins s σ H D I hw => wpAny_mono (h.run pins s σ H D (I.wish _) hw) (fun _ _ q => q.unwish) fun _ _ z => z.elim⟩
theorem pg_nx {X : Cx} {e : Expr} {t : TG} (h : PG X.nox e t) : PG X e t :=
  ⟨fun pins s σ H v u Q I r hw => wpAny_mono (h.run pins s σ H v u Q (I.wish _) r hw) (fun _ _ ⟨σ1, H1, I1, q⟩ => ⟨σ1, H1, I1.unwish, q⟩) fun _ _ z => z.elim⟩
theorem pi_nx {X : Cx} {tg e : Expr} {t : TI} (h : PI X.nox tg e t) : PI X tg e t :=
  ⟨fun pins s σ H R I hw => wpAny_mono (h.run pins s σ H R (I.wish _) hw) (fun _ _ k => wpAny_mono k (fun _ _ ⟨it, fp, tn, J, H1, e1, I1, T, t0, f0, r⟩ => ⟨it, fp, tn, J, H1, e1, I1.unwish, T, t0, f0, r⟩) fun _ _ z => z.elim) fun _ _ z => z.elim⟩
section
variable (g : G0) (c : Ct)
/-- the statement s does m; it may raise -/
def EX (s : Stmt) (m : SM) : Prop := ∃ t : WX → TS, (∀ X W, CokX g c X W → PS X s (t W)) ∧ ∀ A W, SSXw g.K A W (t W) m
def EXs (s : List Stmt) (m : SM) : Prop := ∃ t : WX → TS, (∀ X W, CokX g c X W → PSs X s (t W)) ∧ ∀ A W, SSXw g.K A W (t W) m
end
section
variable {g : G0} {c : Ct} {e : Expr} {pos p : Pos} {m n : SM} {mt : M Bool} {s r : List Stmt} {st : Stmt}
theorem ex_of (h : ES g c st m) : EX g c st m := by
  obtain ⟨t, h1, h2⟩ := h
  exact ⟨fun _ => t, fun X W hX => ps_nx (h1 _ hX.ok), fun A W => sw_of (h2 A)⟩
theorem exs_of (h : ESs g c s m) : EXs g c s m := by
  obtain ⟨t, h1, h2⟩ := h
  exact ⟨fun _ => t, fun X W hX => PSs.nox (h1 _ hX.ok), fun A W => sw_of (h2 A)⟩
theorem exs_cons (h : EX g c st m) (h' : EXs g c s n) : EXs g c (st :: s) (sSeq m n) := by
  obtain ⟨t, h1, h2⟩ := h
  obtain ⟨u, h3, h4⟩ := h'
  exact ⟨fun W => tSeq (t W) (u W), fun X W hX => pss_cons (h1 X W hX) (h3 X W hX), fun A W => sw_seq (h2 A W) (h4 A W)⟩
theorem ex_if (hc : ET g c e mt) (h : EXs g c s m) (h' : EXs g c r n) : EX g c (.If e s r pos) (sIf mt m n) := by
  obtain ⟨t, h1, h2⟩ := hc
  obtain ⟨u, h3, h4⟩ := h
  obtain ⟨v, h5, h6⟩ := h'
  exact ⟨fun W => tIfS t (u W) (v W), fun X W hX => ps_if (PT.nox (h1 _ hX.ok)) (h3 X W hX) (h5 X W hX), fun A W => sw_if (h2 A) (h4 A W) (h6 A W)⟩
theorem ex_for {tg : Expr} {ts : List Nat} {mi : M (List D)} {gg : Vl → M Unit} (hi : EI g c tg e mi) (hg : EG g c tg ts gg) (h : EXs g c s m) (hs : ∀ (env : PySem.Env) x, foldedSetIterable e env x = pure x) :
    EX g c (.For tg e s [] pos) (sFor mi gg m) := by
  obtain ⟨t, h1, h2⟩ := hi
  obtain ⟨u, h3, h4⟩ := hg
  obtain ⟨v, h5, h6⟩ := h
  exact ⟨fun W => tFor t u (v W), fun X W hX => ps_for hX.po hX.ok.calm (pi_nx (h1 _ hX.ok)) (pg_nx (h3 _ hX.ok)) (h5 X W hX) (hs X.env), fun A W => sw_for (h2 A) (h4 A) (h6 A W)⟩
end
end PD
namespace PD
variable [PD.TabL]
open PySem PySem.Spec PyProof.Rows L2
/-- C('..'), C without an __init__ of its own -/
def sRaise0 (n : Str) : SM := fun e => some (.rt (.fr (.ex n "" [])), e)
/-- C(e), C's __init__ keeps the number e in a field -/
def sRaise1 (n f : Str) (ms : M (List Vl)) : SM := fun e => match ms e with
  | some (rs, e1) => match cnts e1 rs with
    | some [.int i] => some (.rt (.fr (.ex n f [.int i])), e1)
    | _ => none
  | none => none
/-- what the text says of an error's class without __init__ -/
structure Er0 (g : G0) (n : Str) (C : Addr) : Prop where
  cl : TabL.cls n = some C
  mg : g.mg n = some (.ref C)
  ex : PySem.W.excIn g.K C [.type "ValueError", .type "Exception", .type "BaseException", .type "object"] "ValueError.__new__" = true
  kp : PySem.W.keepIn g.K (.ref C) = true
  sb : PySem.W.subIn g.K (.ref C) (.type "BaseException") = some true
  ty : PySem.W.typeIn g.K (.ref C) = some (.type "type")
section
variable {g : G0} {c : Ct} {n : Str} {C : Addr} {x : Str} {j : Nat} {p p2 pos pos2 : Pos}
end
section
variable {X : Cx} {e : Expr} {es : List Expr} {ta : TA} {x : Str} {CF : Addr} {p1 p2 pos : Pos}
theorem pe_feinit {pl : Sem Bool} (hg : Gl X x) (hd : (x == ("__debug__" : Str)) = false) (hm : X.mg x = some (.ref CF)) (sp : PySem.W.specialIn X.K (.ref CF) "__getattribute__" = some (some (.builtin "type.__getattribute__"))) (rd : PySem.W.readsIn X.K CF (.type "type") = true)
    (fc : PySem.W.findCls X.K (.ref CF) (.type "type") "__init__" = some (.val (.builtin "ValueError.__init__"))) (ha : PA X (e :: es) ta)
    (hc : eval (.Call (.Attribute (.Name x p1) "__init__" p2) (e :: es) [] pos) X.env = (do
      let ov ← eval (.Name x p1) X.env
      standAt p2.atName
      let (f, first) ← holding [ov] (getMethod ov "__init__" pl)
      callWith pos f first (backTo pos (starEach (e :: es) X.env)) (backToKw pos (keywordEach [] X.env))) := by rfl)
    (he : starEach (e :: es) X.env = (false, eval e X.env) :: starEach es X.env := by rfl) (hpl : (backTo pos (starEach es X.env)).any (·.1) = false := by rfl) :
    PE X (.Call (.Attribute (.Name x p1) "__init__" p2) (e :: es) [] pos) (tVeI X.K ta) := by
  refine ⟨fun pins s σ H Q I h => PySem.W.methodCall_KW (ld_glob I hg hm ?_ hd) hc⟩
  refine PySem.W.method_cls I.kIn sp (PySem.W.cls_value I.kIn rd fc (by decide +kernel) ?_)
  refine PyProof.Rows.callWith_method1 (thn (ha.run pos pins _ σ H _ (I.tok _) h) fun us s1 ⟨vs, H1, I1, r1, a, C, ws, ev, hl, T, ea, q⟩ => ?_) he hpl
  subst ev
  cases r1 with
  | cons ra rw =>
    cases ra
    exact oinit_ok T I1 ea (by rw [← Paired.length rw, sizeLine_eq]; omega) fun s2 J => ⟨.non, _, J, rfl, q⟩
end
/-- __init__(self, m): Base.__init__(self, '..'); self.f = m -/
def spI (K : PySem.W.Frag) (f : Str) : Sp := fun vs H Q _ => ∃ (a C : Addr) (y : V), vs = [.ref a, y] ∧ OexC K C ∧ PySem.W.findIn K (.ref C) f = some none ∧ H a = some (exo a C none) ∧
  ∀ dx, H dx = none → dx ≠ a → Q .non (upd (upd H dx (exd dx [(f, y)])) a (exo a C (some dx)))
structure Er1 (g : G0) (n f : Str) (C : Addr) (k : Nat) : Prop where
  cl : TabL.cls n = some C
  mg : g.mg n = some (.ref C)
  ox : OexC g.K C
  no : PySem.W.findIn g.K (.ref C) f = some none
  fi : ∃ fI fd ps, PySem.W.findIn g.K (.ref C) "__init__" = some (some (.ref fI)) ∧ PySem.W.typeIn g.K (.ref fI) = some (.type "function") ∧ FnOk g.P g.w g.K g.mg g.base CX0 k fI fd ps (spI g.K f) ∧ Binds g.K fd ps []
section
variable {g : G0} {c : Ct} {n f : Str} {C : Addr} {k : Nat} {e : Expr} {m : M Vl} {p pos pos2 : Pos}
theorem ex_raise1 (h : Er1 g n f C k) (hk : k + 1 ≤ c.k) (hg : GlC c n) (hd : (n == ("__debug__" : Str)) = false) (he : EE g c e m) (pl : Pl e) (hpl : ∀ env : PySem.Env, (backTo pos (starEach [] env)).any (·.1) = false) :
    EX g c (.Raise (some (.Call (.Name n p) [e] [] pos)) none pos2) (sRaise1 n f (cA m cN)) := by
  obtain ⟨fI, fd, ps, f1, f2, f3, f4⟩ := h.fi
  obtain ⟨t, h1, h2⟩ := he
  refine ⟨fun W => fun _ σ H => tMkO C (spI g.K f) [] (tCons t tNil) σ H fun cls d H' => W cls d σ H', fun X W hX => ?_, fun A W σ B H env env' fl E S q0 q => ?_⟩
  · have k1 := hX.ok
    have eK : X.K = g.K := k1.eK
    have em : X.mg = g.mg := k1.em
    have eP : X.prog = g.P := k1.eP
    have ew : X.w = g.w := k1.ew
    have eb : X.base = g.base := k1.eb
    have F1 : FnOk X.prog X.w X.K X.mg X.base CX0 k fI fd ps (spI g.K f) := by
      rw [eP, ew, eK, em, eb]
      exact f3
    refine ps_raise (X := X) k1.calm hX.tk (pmk_oex (X := X) (ds := []) (dvs := []) (by rw [eK]; exact h.ox) (by rw [eK]; exact f1) (by rw [eK]; exact f2) F1 (k1.room.mono hk) (by rw [eK]; exact f4) .nil ?_ (show Gl X n from gl_of (X := X.nox) k1 hg) (by rw [em]; exact h.mg) ?_ hd (pl [] X.env) (hpl X.env))
    · exact fun _ _ _ _ _ _ _ z => z.elim
    · exact pa_cons (PE.nox (h1 _ k1)) pa_nil (pl [] X.env)
  · unfold sRaise1 at q0
    split at q0
    · rename_i rs e1 hm
      split at q0
      · rename_i i hc
        cases q0
        refine sa_cons (h2 A) sa_nil σ [] B H env [] _ rs _ S.nil_app S.len hm fun B1 H1 vs s1 hl1 S1 hr => ?_
        have rr := Hv.rrs S1 hl1 hr hc
        have S1 := S1.app_nil
        cases rr with
        | cons r0 rn =>
          cases rn
          cases r0.int
          refine ⟨by simp, fun a ha => ⟨a, C, .int i, rfl, h.ox, h.no, upd_same, fun dx hdx ne => ⟨rfl, dx, [(f, .int i)], upd_same, (upd_ne ne).trans upd_same, ?_, ?_⟩⟩⟩
          · rwa [upd_ne ne] at hdx
          · rw [upd_ne ne] at hdx
            have eH : upd (del (upd (upd (upd H1 a (exo a C none)) dx (exd dx [(f, .int i)])) a (exo a C (some dx))) a) dx (.xd [(f, .int i)]) = upd H1 dx (.xd [(f, .int i)]) := by
              funext b
              by_cases h1 : b = dx
              · subst h1
                rw [upd_same, upd_same]
              · rw [upd_ne h1, upd_ne h1]
                by_cases h2 : b = a
                · subst h2
                  rw [del_same, ha]
                · rw [del_ne h2, upd_ne h2, upd_ne h1, upd_ne h2]
            rw [eH]
            obtain ⟨n1, n2, _⟩ := S1.new hdx
            exact q σ B1 _ C (some dx) s1 (S1.laid hdx) ⟨h.cl, .int i, upd_same, fun _ => .int i, n2⟩
      · cases q0
    · cases q0
end
end PD
namespace PD
variable [PD.TabL]
open PySem PySem.Spec PyProof.Rows L2
def exV : Vl → Option (Str × Str × List D)
  | .fr (.ex n f ds) => some (n, f, ds)
  | _ => none
theorem exV_some {r : Vl} {n f : Str} {ds : List D} (h : exV r = some (n, f, ds)) : r = .fr (.ex n f ds) := by
  unfold exV at h
  split at h
  · cases h
    rfl
  · cases h
/-- a def's promise: it tells, or an error leaves it -/
def spX (K : PySem.W.Frag) (F : Fs) : Sp := fun vs H Q E => ∃ (A : Anc) (B : Hp) (ds ds' : List D) (r : Vl), A.H0 = noT H ∧ A.B0 = B ∧ SR K A B H (vs.map some) (mkE 0 F.sig ds) ∧ ds.length = F.sig.length ∧ F.sem ds = some (r, ds') ∧
  (∀ B' H' v, Same B B' → ds'.length = ds.length → VRp K A B' H' (vs.map some) (mkE 0 F.sig ds') r v → Q v H') ∧
  (∀ x, exV r = some x → ∀ B' H' C d, Same B B' → ds'.length = ds.length → SR K A B' H' (vs.map some) (mkE 0 F.sig ds') → ExR K A H' x.1 x.2.1 x.2.2 C d → E (.ref C) d H')
theorem spX.len {K : PySem.W.Frag} {F : Fs} {vs : List V} {H : Hp} {Q : VK} {E : XK} (h : spX K F vs H Q E) : vs.length = F.sig.length := by
  obtain ⟨A, B, ds, ds', r, _, _, S, hd, _⟩ := h
  have := S.len
  rw [List.length_map] at this
  rw [this]
  exact mkE_length hd
section
variable {K : PySem.W.Frag}
theorem body_okX {sig : List Bool} {n : Nat} {body : SM} {t : WX → TS} (hn : sig.length ≤ n) (hb : ∀ A W, SSXw K A W (t W) body) {N : List Str} (hN : N.length = n) {vs : List V} {H : Hp} {Q : VK} {E : XK} (h : spX K ⟨runF sig n body, sig⟩ vs H Q E) :
    t (fun cls d _ H' => E cls d H') { nx := fun _ H' => Q .non H', rt := Q } (L2.start N vs) H := by
  have lv := h.len
  obtain ⟨A, B, ds, ds', r, hA, hB, S, hd, hf, q, qx⟩ := h
  have hf : runF sig n body ds = some (r, ds') := hf
  have hd : ds.length = sig.length := hd
  have lv : vs.length = sig.length := lv
  unfold runF at hf
  rw [if_pos hd] at hf
  have S0 : SR K A B H (L2.start N vs) (mkE 0 sig ds ++ List.replicate (n - ds.length) .em) := by
    have e : L2.start N vs = vs.map some ++ List.replicate (n - ds.length) none := by
      unfold L2.start
      rw [hN, lv, hd]
    rw [e]
    exact S.ems _
  split at hf
  · rename_i e1 hbe
    split at hf
    · rename_i o ho
      cases hf
      refine hb A _ (L2.start N vs) B H _ e1 .nx _ S0 hbe fun σ1 B1 H1 s1 S1 => ?_
      obtain ⟨lo, S2⟩ := params_end S hd s1 S1 ho
      exact q B1 H1 .non s1 lo ⟨S2, .non⟩
    · cases hf
  · rename_i r0 e1 hbe
    split at hf
    · rename_i r' o hr ho
      cases hf
      refine hb A _ (L2.start N vs) B H _ e1 (.rt r0) _ S0 hbe ?_
      unfold FPX
      split
      · rename_i x hx
        obtain ⟨n1, f1, xs⟩ := x
        cases exOf_some hx
        cases hr
        intro σ1 B1 H1 C d s1 S1 hR
        obtain ⟨lo, S2⟩ := params_end S hd s1 S1 ho
        exact qx _ rfl B1 H1 C d s1 lo S2 hR
      · intro σ1 B1 H1 v s1 hl1 hv
        have S1 : SR K A B1 H1 σ1 e1 := hv.drop.app_nil
        obtain ⟨lo, S2⟩ := params_end S hd s1 S1 ho
        have lo2 : ds'.length = sig.length := by omega
        cases r0 with
        | im d =>
          cases hr
          exact q B1 H1 v s1 lo ⟨S2, hv.2⟩
        | fr d =>
          cases hr
          have hv : SR K A B1 H1 (σ1 ++ [] ++ [some v]) (e1 ++ [] ++ [.ow d]) := hv
          rw [List.append_nil, List.append_nil] at hv
          have g1 : (e1 ++ [Sl.ow d])[e1.length]? = some (.ow d) := by simp
          have g2 : (σ1 ++ [some v])[e1.length]? = some (some v) := by
            rw [← hl1]
            simp
          cases hv.slot _ _ _ g1 g2 with
          | ow b h0 c => exact q B1 H1 _ s1 lo (give_back S2 lo2 b h0 c)
        | bo i =>
          obtain ⟨_, hi⟩ := hv
          unfold retV at hr
          dsimp only at hr
          split at hr
          · rename_i d he
            cases hr
            cases S1.slot _ _ _ he hi with
            | ow b h0 c => exact q B1 H1 _ s1 lo (give_back S2 lo2 b h0 c)
          · rename_i d he
            cases hr
            cases S1.slot _ _ _ he hi with
            | im r => exact q B1 H1 v s1 lo ⟨S2, r⟩
          · cases hr
    · cases hf
  · cases hf
end
structure FnGX (g : G0) (k : Nat) (f : Addr) (fd : FuncData) (ps : List Str) (sp : Sp) : Prop where
  len : ∀ vs H Q E, sp vs H Q E → vs.length = ps.length
  run : ∀ (A : Around) (outer : List PySem.Env) (s : Shared) (H : Hp) (args : Args) (us : List Value) (vs : List V) (Q : VK) (E : XK), Room k A → A.guards = some [] → Env0 g.P g.w g.K g.mg g.base A outer s H →
    BindsTo s fd args (ps.zip us) → Vals vs us → sp vs H Q E → codeAny (model g.P g.w) A (.call (.ref f) args) (CR (L2.CX g.P g.w) outer g.P g.w H s Q E) s
/-- the def x stands in the text and does F; it may raise -/
structure FnX (g : G0) (x : Str) (k : Nat) (F : Fs) : Prop where
  ex : ∃ (f : Addr) (fd : FuncData) (ps : List Str), g.mg x = some (.ref f) ∧ PySem.W.keepIn g.K (.ref f) = true ∧ Binds g.K fd ps [] ∧ FnGX g k f fd ps (spX g.K F)
theorem fn_atX {g : G0} {x : Str} {st : Stmt} {f : Addr} {fd : FuncData} {N ps : List Str} {sig : List Bool} {body : SM} {k : Nat} (h2 : Fun g.K x x st f fd) (S : FnScope N ps (defScope st)) (hs : sig.length = ps.length) (hb : EXs g ⟨N, defScope st, fun _ => true, k, none⟩ (defBody st) body) :
    FnGX g (k + 1) f fd ps (spX g.K ⟨runF sig N.length body, sig⟩) := by
  obtain ⟨oc, od, kV, doc, pm, an, cdv, ct, osl, rfl, lk, hcd⟩ := h2.ex
  have len : ∀ vs H Q E, spX g.K ⟨runF sig N.length body, sig⟩ vs H Q E → vs.length = ps.length := fun vs H Q E h => h.len.trans hs
  have hpl : ps.length ≤ N.length := by
    have := congrArg List.length S.pre
    rw [List.length_take] at this
    omega
  obtain ⟨t, ht, hq⟩ := hb
  refine ⟨len, fun A outer s H args us vs Q E hr hgu e0 hbd r hsp => ?_⟩
  have hl := len _ _ _ _ hsp
  have KX : g.K.In s.heap := e0.mod.kin.keeps fun b o e => (e0.bs b o e).1
  have lim : s.heap.NoLimit := e0.mod.nolimit.keeps fun b o e => (e0.bs b o e).1
  have hkind : ∀ y ∈ ps.zip us, (defScope st).names.lookup y.1 = some .local ∨ ((defScope st).names.lookup y.1 = some .cell ∧ ((cellsFrom (s.heap.objs.size + 1) (defScope st).names []).lookup y.1).isSome = true) := fun ⟨n, v⟩ hy => by
    rcases S.par n (List.of_mem_zip hy).1 with q | q
    · exact .inl q
    · exact .inr ⟨q, PySem.W.cellsFrom_some _ _ _ (.inl q)⟩
  refine codeAny_call_function hr.depth (KX _ _ lk) rfl S.co S.gen rfl (PySem.W.codeRec_of KX hcd) (hbd _ _ _ _ ?_)
  refine wpAny_newFunctionEnv_cells S.kind hkind fun env he s1 x1 => ?_
  subst he
  refine ⟨lim.keeps x1.toInCall.keep, codeAny_func ?_⟩
  have I : Inv (cxOf (L2.CX g.P g.w) g.P g.w g.K g.mg g.base N x (defScope st) f cdv A outer s H E) [] (L2.start N vs) H s1 := inv_start S hr.hd e0 hl r x1
  have cok : CokX g ⟨N, defScope st, fun _ => true, k, none⟩ (cxOf (L2.CX g.P g.w) g.P g.w g.K g.mg g.base N x (defScope st) f cdv A outer s H E) (fun cls d _ H' => E cls d H') :=
    ⟨⟨rfl, rfl, rfl, rfl, rfl, rfl, rfl, rfl, S.nd, fun _ _ => rfl, hr.deeper _, hgu, rfl, fun y cd e => nomatch e⟩, takes_of rfl rfl rfl rfl, passes_of rfl, rfl, rfl, rfl⟩
  have hq2 := body_okX (n := N.length) (by omega) hq rfl hsp
  refine wpAny_mono ((ht _ _ cok).run [] s1 (L2.start N vs) H _ I hq2) (fun fl s' hs' => ?_) fun e s' hs' => hs'
  have fin : ∀ {σ' : L2.St} {H' : Hp} {v : V} {u : Value}, Inv (cxOf (L2.CX g.P g.w) g.P g.w g.K g.mg g.base N x (defScope st) f cdv A outer s H E) [] σ' H' s' → RelV v u → Q v H' → CE outer g.P g.w H s Q u s' :=
    fun {σ' H' v u} J rv q => ⟨v, H', J.os, J.bare, J.base, J.hok, rv, q⟩
  cases fl with
  | ret u =>
    obtain ⟨v, σ', H', J, rv, q⟩ := hs'
    exact fin J rv q
  | next =>
    obtain ⟨σ', H', J, q⟩ := hs'
    exact fin (v := V.non) (u := Value.none) J rfl q
  | brk =>
    obtain ⟨_, _, _, q⟩ := hs'
    exact False.elim q
  | cont =>
    obtain ⟨_, _, _, q⟩ := hs'
    exact False.elim q
theorem fn_ruleX {g : G0} {x : Str} {st : Stmt} {N ps : List Str} {sig : List Bool} {body : SM} {k : Nat} (D : DefAt g x st ps) (S : FnScope N ps (defScope st)) (hs : sig.length = ps.length) (hb : EXs g ⟨N, defScope st, fun _ => true, k, none⟩ (defBody st) body) :
    FnX g x (k + 1) ⟨runF sig N.length body, sig⟩ := by
  obtain ⟨f, fd, h1, h2, h3⟩ := D.ex
  exact ⟨f, fd, ps, h1, h2.kp, h3, fn_atX h2 S hs hb⟩
end PD
namespace PD
variable [PD.TabL]
open PySem PySem.Spec PyProof.Rows L2
def FnN (F : Fs) : Fs := ⟨fun ds => match F.sem ds with
  | some (r, ds') => match exV r with
    | some _ => none
    | none => some (r, ds')
  | none => none, F.sig⟩
theorem fn_ofX {g : G0} {x : Str} {k : Nat} {F : Fs} (h : FnX g x k F) : FnI g x k (FnN F) := by
  obtain ⟨f, fd, ps, h1, h2, h3, h4⟩ := h.ex
  have conv : ∀ {vs : List V} {H : Hp} {Q : VK} {E : XK}, spF g.K (FnN F) vs H Q E → spX g.K F vs H Q (fun _ _ _ => False) := fun {vs H Q E} ⟨A, B, ds, ds', r, hA, hB, S, hd, hf, q⟩ => by
    have hf : (match F.sem ds with
      | some (r, ds') => match exV r with
        | some _ => none
        | none => some (r, ds')
      | none => none) = some (r, ds') := hf
    split at hf
    · rename_i r1 d1 hs
      split at hf
      · cases hf
      · rename_i hx
        cases hf
        exact ⟨A, B, ds, ds', r, hA, hB, S, hd, hs, q, fun x hx2 => by
          rw [hx] at hx2
          cases hx2⟩
    · cases hf
  refine ⟨f, fd, ps, h1, h2, h3, ⟨fun vs H Q h => h4.len vs H Q _ (conv h), fun A outer s H args us vs Q hr hg e0 hb r hsp => codeAny_mono (h4.run A outer s H args us vs Q _ hr hg e0 hb r (conv hsp)) fun r s' hq => ?_⟩⟩
  cases r with
  | ok fl =>
    cases fl with
    | ret u => exact hq
    | next => exact hq
    | brk => exact hq
    | cont => exact hq
  | error e =>
    obtain ⟨_, _, _, _, _, _, _, _, _, _, _, _, z⟩ := hq
    exact z.elim
def Fk (sig : List Bool) (r : Vl) (ds' : List D) : Fs := ⟨fun _ => some (r, ds'), sig⟩
def sCallX (F : Fs) (ms : M (List Vl)) : SM := fun e => match ms e with
  | some (rs, e1) => match cnts e1 rs with
    | some ds => match F.sem ds with
      | some (r, ds') => match exV r with
        | some (n, f, xs) => (callE (Fk F.sig (.im .non) ds') rs e1).map fun p => (.rt (.fr (.ex n f xs)), p.2)
        | none => (callE (Fk F.sig r ds') rs e1).map fun p => (.nx, p.2)
      | none => none
    | none => none
  | none => none
def tCallX (sp : Sp) (W : WX) (t : TA) : TE := fun σ H Q => t σ H fun vs H1 => sp (vs ++ []) H1 Q fun cls d H' => W cls d σ H'
section
variable {K : PySem.W.Frag} {A : Anc}
open Classical in
/-- the promise of a def that tells one thing of one lot -/
theorem callK_ok {F : Fs} {r : Vl} {ds ds' : List D} {rs : List Vl} {vs : List V} {B H : Hp} {σ : L2.St} {env env' : Env} {v0 : Vl} (S : SR K A B H (σ ++ []) (env ++ [])) (hl : σ.length = env.length) (hr : Paired (Hv K B σ) rs vs) (hc : cnts env rs = some ds)
    (e : callE (Fk F.sig r ds') rs env = some (v0, env')) (Q : VK) (q : ∀ B' H' v, Same B B' → σ.length = env'.length → VR K A B' H' σ [] env' [] v0 v → Q v H') :
    ∃ (A' : Anc) (B0 : Hp), A'.H0 = noT H ∧ A'.B0 = B0 ∧ SR K A' B0 H (vs.map some) (mkE 0 F.sig ds) ∧ ds.length = F.sig.length ∧
      ∀ B' H' v, Same B0 B' → ds'.length = ds.length → VRp K A' B' H' (vs.map some) (mkE 0 F.sig ds') r v → Q v H' := by
  have e2 : callE ⟨fun z => if z = ds then some (r, ds') else none, F.sig⟩ rs env = some (v0, env') := by
    rw [← e]
    unfold callE Fk
    rw [hc]
    simp
  obtain ⟨A', B0, d1, d2, r1, h1, h2, h3, h4, h5, h6⟩ := callE_ok (F := ⟨fun z => if z = ds then some (r, ds') else none, F.sig⟩) S hl hr e2 Q q (fun _ _ _ => False)
  have h5 : (if d1 = ds then some (r, ds') else none) = some (r1, d2) := h5
  split at h5
  · rename_i hd
    cases h5
    subst hd
    exact ⟨A', B0, h1, h2, h3, h4, h6⟩
  · cases h5
theorem exV_no {B H : Hp} {vs : L2.St} {env : Env} {r : Vl} {x : Str × Str × List D} {v : V} (hx : exV r = some x) : ¬ VRp K A B H vs env r v := fun hv => by
  obtain ⟨n, f, xs⟩ := x
  rw [exV_some hx] at hv
  have hv : SR K A B H (vs ++ [some v]) (env ++ [.ow (.ex n f xs)]) := hv
  have ln := hv.len
  rw [List.length_append, List.length_append] at ln
  have g1 : (env ++ [Sl.ow (.ex n f xs)])[env.length]? = some (.ow (.ex n f xs)) := by simp
  have g2 : (vs ++ [some v])[env.length]? = some (some v) := by
    have : vs.length = env.length := by simpa using ln
    rw [← this]
    simp
  cases hv.slot _ _ _ g1 g2 with
  | ow b h0 c =>
    rename_i p _
    generalize H p = o at c
    cases c
theorem sw_callX {F : Fs} {ms : M (List Vl)} {t : TA} (h : SAX K A t ms) (W : WX) : SSXw K A W (tDrop (tCallX (spX K F) W t)) (sCallX F ms) := fun σ B H env env' fl E S e q => by
  unfold sCallX at e
  split at e
  · rename_i rs e1 he
    split at e
    · rename_i ds hc
      split at e
      · rename_i r ds' hf
        refine h σ [] B H env [] e1 rs _ S.nil_app S.len he fun B1 H1 vs s1 hl1 S1 hr => ?_
        show spX K F (vs ++ []) H1 _ _
        rw [List.append_nil]
        split at e
        · rename_i n f xs hx
          rw [Option.map_eq_some_iff] at e
          obtain ⟨⟨v0, e2⟩, hce, heq⟩ := e
          cases heq
          obtain ⟨A', B0, h1, h2, h3, h4, h6⟩ := callK_ok (F := F) S1 hl1 hr hc hce (fun _ H' => ∃ B2, Same B1 B2 ∧ SR K A B2 H' σ e2) fun B' H' v s' hl' hv => by
            cases v0 with
            | im d => exact ⟨B', s', hv.1.app_nil⟩
            | fr d => exact ⟨B', s', hv.drop.app_nil⟩
            | bo i => exact ⟨B', s', hv.1.app_nil⟩
          refine ⟨A', B0, ds, ds', r, h1, h2, h3, h4, hf, fun B' H' v _ _ hv => absurd hv (exV_no hx), fun x hx2 B' H' C d s' hl' S' hR => ?_⟩
          rw [hx] at hx2
          cases hx2
          obtain ⟨B2, s2, S2⟩ := h6 B' H' .non s' hl' ⟨S', .non⟩
          have q := q σ B2 H' C d (s1.trans s2) S2
          refine q ⟨hR.1, ?_⟩
          have hR2 := hR.2
          match xs, d, hR2 with
          | [], none, _ => trivial
          | [x], some dd, ⟨v, k1, k2, k3⟩ =>
            refine ⟨v, k1, k2, ?_⟩
            rw [h1] at k3
            have n1 : dd ∉ tbA := S2.tN fun ps z => by
              rw [k1] at z
              cases z
            rw [noT_of n1] at k3
            exact (S1.app_nil.new k3).2.1
        · rename_i hx
          rw [Option.map_eq_some_iff] at e
          obtain ⟨⟨v0, e2⟩, hce, heq⟩ := e
          cases heq
          obtain ⟨A', B0, h1, h2, h3, h4, h6⟩ := callK_ok (F := F) S1 hl1 hr hc hce (fun _ H' => E.nx σ H') fun B' H' v s' hl' hv => by
            have q : FP K A B E e2 .nx := q
            cases v0 with
            | im d => exact q σ B' H' (s1.trans s') hv.1.app_nil
            | fr d => exact q σ B' H' (s1.trans s') hv.drop.app_nil
            | bo i => exact q σ B' H' (s1.trans s') hv.1.app_nil
          exact ⟨A', B0, ds, ds', r, h1, h2, h3, h4, hf, h6, fun x hx2 => by
            rw [hx] at hx2
            cases hx2⟩
      · cases e
    · cases e
  · cases e
end
section
variable {g : G0} {c : Ct} {e : Expr} {es : List Expr} {pos p pos2 : Pos} {ms : M (List Vl)}
theorem runGX {X : Cx} {W : WX} {f : Addr} {fd : FuncData} {ps : List Str} {sp : Sp} {k : Nat} (hX : CokX g c X W) (F : FnGX g k f fd ps sp) (hk : k ≤ c.k) (hb : Binds g.K fd ps []) {pins : List (Addr × Obj)} {σ : L2.St} {H : Hp} {s : Shared} {Q : VK} {us : List Value} {vs : List V} (I : Inv X pins σ H s) (r : Vals vs us)
    (h : sp vs H Q fun cls d H' => W cls d σ H') : wpAny (model X.prog X.w) X.A (call (.ref f) us) (EP X pins σ Q) X.xe s := by
  have k1 := hX.ok
  have eK : X.K = g.K := k1.eK
  have em : X.mg = g.mg := k1.em
  have eP : X.prog = g.P := k1.eP
  have ew : X.w = g.w := k1.ew
  have eb : X.base = g.base := k1.eb
  have e0 := I.env0
  rw [eP, ew, eK, em, eb] at e0
  have hl : (us ++ ([] : List Value)).length = ps.length := by
    rw [List.append_nil, ← r.length]
    exact F.len _ _ _ _ h
  have kin : g.K.In s.heap := by
    rw [← eK]
    exact I.kIn
  have hb' := hb s us kin hl
  rw [List.append_nil] at hb'
  have run := F.run X.A X.stack s H ⟨us, []⟩ us vs Q _ (k1.room.mono hk) k1.gu e0 hb' r h
  rw [← eP, ← ew] at run
  refine wpAny_call (codeAny_mono run fun r s' hq => ?_)
  cases r with
  | error e => exact hX.tk _ _ (XE.of_call I (fun _ _ _ z => z) hq)
  | ok fl =>
    cases fl with
    | ret u => exact I.after hq
    | next => exact hq.elim
    | brk => exact hq.elim
    | cont => exact hq.elim
theorem pe_callX {x : Str} {k : Nat} {F : Fs} {X : Cx} {W : WX} {t : TA} (hF : FnX g x k F) (hk : k ≤ c.k) (hg : GlC c x) (hX : CokX g c X W) (h1 : PA X (e :: es) t) (pl : Pl e) (hpl : ∀ env : PySem.Env, (backTo pos (starEach es env)).any (·.1) = false) (hdb : (x == ("__debug__" : Str)) = false) :
    PE X (.Call (.Name x p) (e :: es) [] pos) (tCallX (spX g.K F) W t) := by
  obtain ⟨f, fd, ps, f1, f2, f3, f4⟩ := hF.ex
  have k1 := hX.ok
  have eK : X.K = g.K := k1.eK
  have em : X.mg = g.mg := k1.em
  refine ⟨fun pins s σ H Q I hq => ?_⟩
  refine wpAny_Call_Name_kw (ld_glob I (show Gl X x from gl_of (X := X.nox) k1 hg) (by rw [em]; exact f1) ?_ hdb)
  have hkp : PySem.W.keepIn X.K (.ref f) = true := by rw [eK]; exact f2
  refine PySem.W.callWith_K (h₀ := X.base) I.ok.mod.kin hkp (thn (h1.run pos pins s σ H _ I hq) fun us s1 ⟨vs, H1, I1, r, q⟩ => ⟨I1.kIn, ?_⟩) (pl es X.env) (hpl X.env)
  refine runGX hX f4 hk f3 I1 r ?_
  have q : spX g.K F (vs ++ []) H1 Q fun cls d H' => W cls d σ H' := q
  rwa [List.append_nil] at q
theorem pa_nx {X : Cx} {es : List Expr} {t : TA} (h : PA X.nox es t) : PA X es t :=
  ⟨fun pos pins s σ H Q I hw => wpAny_mono (h.run pos pins s σ H Q (I.wish _) hw) (fun _ _ ⟨vs, H1, I1, r, q⟩ => ⟨vs, H1, I1.unwish, r, q⟩) fun _ _ z => z.elim⟩
/-- f(..), what it tells isn't kept -/
theorem ex_call {x : Str} {k : Nat} {F : Fs} (hF : FnX g x k F) (hk : k ≤ c.k) (hg : GlC c x) (h : EA g c (e :: es) ms) (pl : Pl e) (hpl : ∀ env : PySem.Env, (backTo pos (starEach es env)).any (·.1) = false) (hdb : (x == ("__debug__" : Str)) = false)
    (hs : ∀ env : PySem.Env, swapsWith (.Call (.Name x p) (e :: es) [] pos) none pos2.line env = pure false) : EX g c (.Expr (.Call (.Name x p) (e :: es) [] pos) pos2) (sCallX F ms) := by
  obtain ⟨t, h1, h2⟩ := h
  exact ⟨fun W => tDrop (tCallX (spX g.K F) W t), fun X W hX => ps_expr (pe_callX hF hk hg hX (pa_nx (h1 _ hX.ok)) pl hpl hdb) (hs X.env), fun A W => sw_callX (h2 A) W⟩
end
end PD
namespace PD
variable [PD.TabL]
open PySem PySem.Spec PyProof.Rows L2
def sTryK (m : SM) (i j : Nat) : SM := fun e => match m e with
  | some (fl, e1) => match exOf fl with
    | some (n, f, xs) => some (.nx, ((e1.set i (.im (.ex n f xs))).set j (.im (.ex n f xs))).set i .em)
    | none => match fl with
      | .nx => some (.nx, e1)
      | _ => none
  | none => none
section
variable {K : PySem.W.Frag} {A : Anc}
/-- an error's object, looked at and never changed -/
theorem SR.keepX {B H : Hp} {σ : L2.St} {env : Env} {n f : Str} {xs : List D} {C a : Addr} {d : Option Addr} (S : SR K A B H σ env) (hR : ExR K A H n f xs C d) (ha : H a = none) :
    ∃ B', Same B B' ∧ SR K A B' (upd H a (ExK C d a)) σ env ∧ Rp K B' (.ex n f xs) (.ref a) := by
  obtain ⟨hc, h2⟩ := hR
  match xs, d, h2 with
  | [], none, _ =>
    obtain ⟨S1, s1⟩ := S.laidF (o := ExK C none a) ha
    exact ⟨_, s1, S1, .ex (vs := []) hc upd_same .nil⟩
  | [x], some dd, ⟨v, k1, k2, k3⟩ =>
    have nt : dd ∉ tbA := S.tN fun ps z => by
      rw [k1] at z
      cases z
    obtain ⟨B1, s1, S1, b1⟩ : ∃ B1, Same B B1 ∧ SR K A B1 H σ env ∧ B1 dd = some (.xd [(f, v)]) := by
      cases hb : B dd with
      | some o =>
        have := S.same _ _ hb
        rw [k1] at this
        cases this
        exact ⟨B, Same.refl _, S, hb⟩
      | none =>
        refine ⟨upd B dd (.xd [(f, v)]), fun b u e => ?_, S.freeze k1 hb k3 (fun i sl e m z => ?_) nt, upd_same⟩
        · rw [upd_ne (ne_of_none e hb)]
          exact e
        · obtain ⟨q, d0, u, e1, _, e2, c0⟩ := (S.slot i sl _ e z).held m
          cases e1
          rw [k1] at e2
          cases e2
          cases c0
    obtain ⟨S2, s2⟩ := S1.laidF (o := ExK C (some dd) a) ha
    exact ⟨_, s1.trans s2, S2, .ex (vs := [v]) hc ⟨dd, upd_same, s2 _ _ b1⟩ (.cons (k2 _) .nil)⟩
theorem sw_try {t : WX → TS} {m : SM} {i j : Nat} {CF : Addr} (hb : ∀ W, SSXw K A W (t W) m) (hcat : ∀ n C, TabL.cls n = some C → PySem.W.exmOne K (.ref C) (.ref CF) = some true) (W : WX) :
    SSXw K A W (fun D σ H => t (wKeep K (.ref CF) i j D) D σ H) (sTryK m i j) := fun σ B H env env' fl E S e q => by
  unfold sTryK at e
  split at e
  · rename_i fl1 e1 hm
    refine hb _ σ B H env e1 fl1 E S hm ?_
    unfold FPX
    split
    · rename_i x hx
      obtain ⟨n, f, xs⟩ := x
      rw [hx] at e
      cases e
      have q : FP K A B E _ .nx := q
      intro σ1 B1 H1 C d s1 S1 hR
      refine ⟨hcat n C hR.1, C, rfl, fun a ha => ?_⟩
      obtain ⟨B2, s2, S2, r2⟩ := S1.keepX hR ha
      exact q _ B2 _ (s1.trans s2) (((S2.setIm r2).setIm r2).setEm)
    · rename_i hx
      rw [hx] at e
      dsimp only at e
      split at e
      · cases e
        exact q
      · cases e
  · cases e
end
section
variable {g : G0} {c : Ct} {body : List Stmt} {m : SM} {x n mm : Str} {i j : Nat} {CF : Addr} {np n2p mp ap pos pos' : Pos}
theorem ex_try (hb : EXs g c body m) (hi : c.N[i]? = some n) (li : ∀ env : PySem.Env, env.scope = c.sc → env.kindOf n = some .local) (hj : c.N[j]? = some mm) (lj : ∀ env : PySem.Env, env.scope = c.sc → env.kindOf mm = some .local) (hv : Vis c.sc n)
    (hnd : (n == ("__debug__" : Str)) = false) (hnc : (n == ("__classdict__" : Str)) = false) (hg : GlC c x) (hd : (x == ("__debug__" : Str)) = false) (hm : g.mg x = some (.ref CF)) (hcat : ∀ n C, TabL.cls n = some C → PySem.W.exmOne g.K (.ref C) (.ref CF) = some true) :
    EX g c (.Try body [.ExceptHandler (some (.Name x np)) (some n) [.Assign [.Name mm mp] (.Name n n2p) ap] pos'] [] [] pos) (sTryK m i j) := by
  obtain ⟨t, h1, h2⟩ := hb
  refine ⟨fun W => fun D σ H => t (wKeep g.K (.ref CF) i j D) D σ H, fun X W hX => ?_, fun A W => sw_try (h2 A) hcat W⟩
  have k := hX.ok
  have eK : X.K = g.K := k.eK
  have em : X.mg = g.mg := k.em
  have eN : X.N = c.N := k.eN
  have es : X.env.scope = c.sc := k.es
  rw [← eK]
  exact ps_try_keep (X := X) hX.st hX.fr k.nd (by rw [eN]; exact hi) (li _ es) (by rw [eN]; exact hj) (lj _ es) (by rw [es]; exact hv) hnd hnc hX.ex ⟨show Gl X x from gl_of (X := X.nox) k hg, hd, .inl (by rw [em]; exact hm)⟩
    fun W pn xe tk po => h1 (X.tr pn xe) W ⟨⟨k.eP, k.ew, k.eK, k.em, k.eb, k.eN, k.es, k.calm, k.nd, k.fn, k.room, k.gu, rfl, k.ec⟩, tk, po, hX.st, hX.fr, hX.ex⟩
end
end PD
namespace PD
variable [PD.TabL]
open PySem PySem.Spec PyProof.Rows L2
structure ExF (K : PySem.W.Frag) (C : Addr) : Prop where
  cl : (PySem.W.clsIn K C).isSome = true
  ga : PySem.W.findIn K (.ref C) "__getattribute__" = some (some (.builtin "BaseException.__getattribute__"))
  gg : PySem.W.findIn K (.ref C) "__getattr__" = some none
  sb : PySem.W.subIn K (.ref C) (.type "BaseException") = some true
  ca : PySem.W.findIn K (.ref C) "__class__" = some (some (.builtin "object.__class__"))
  mr : PySem.W.mroIn K C (.type "object") = some true
  hd : PySem.W.hasDictIn K C = true
/-- what is asked of errors of the classes ns: are they of ms -/
structure ErrF (g : G0) (ns ms : List Str) : Prop where
  gt : PySem.W.specialIn g.K (.builtin "object.__class__") "__get__" = some (some (.builtin "getset_descriptor.__get__"))
  tk : PySem.W.takesIn g.K (.builtin "object.__class__") = some true
  ex : ∀ n ∈ ns, ∀ C, TabL.cls n = some C → ExF g.K C
  is : ∀ n ∈ ns, ∀ m ∈ ms, ∀ C Cm, TabL.cls n = some C → TabL.cls m = some Cm → PySem.W.kitOne g.K (.ref C) (.ref Cm) = some (decide (n = m))
  ve : ∀ n ∈ ns, ∀ C, TabL.cls n = some C → PySem.W.kitOne g.K (.ref C) (.type "ValueError") = some true
def clsOf : D → Option Str
  | .cl n => some n
  | _ => none
def clsIs (ms : List Str) (c : D) : Bool := match clsOf c with
  | some m => decide (m ∈ ms)
  | none => false
theorem clsIs_of {ms : List Str} {c : D} (h : clsIs ms c = true) : ∃ m ∈ ms, c = .cl m := by
  cases c with
  | cl m => exact ⟨m, of_decide_eq_true h, rfl⟩
  | _ => exact nomatch h
def isX (ns ms : List Str) : List D → Option Vl
  | [.ex n _ _, .cl m] => if n ∈ ns ∧ m ∈ ms then some (.im (.bl (decide (n = m)))) else none
  | [.ex n _ _, .tup cs] => if n ∈ ns ∧ cs.all (clsIs ms) = true then some (.im (.bl (cs.any fun c => decide (clsOf c = some n)))) else none
  | [.ex n _ _, .ty t] => if n ∈ ns ∧ t = "ValueError" then some (.im (.bl true)) else none
  | _ => none
section
variable {g : G0} {X : Cx} {pins : List (Addr × Obj)} {σ : L2.St} {H : Hp} {s : Shared}
/-- an error that is looked at -/
def ExH (H : Hp) (C : Addr) (a : Addr) : Prop := ∃ d, H a = some (ExK C d a) ∧ (d = none ∨ ∃ dd fs, d = some dd ∧ H dd = some (.xd fs))
theorem ex_inst {a C : Addr} (I : Inv X pins σ H s) (h : ExH H C a) : ∃ ox od, PySem.W.InstAt s.heap a ox C od := by
  obtain ⟨d, e, hd⟩ := h
  obtain ⟨⟨oe, vs, e1, z1, d1⟩, _⟩ := (show ObjOk X.prog X.w H s.heap a (ExK C d a) from I.hok a _ e)
  have nc : PySem.W.notCls oe = true := by
    unfold PySem.W.notCls
    rw [d1]
  rcases hd with rfl | ⟨dd, fs, rfl, ed⟩
  · exact ⟨oe, none, e1, z1.1, nc, by rw [z1.2]; trivial⟩
  · obtain ⟨mA, hns, hr⟩ := (show ObjOk X.prog X.w H s.heap dd (.xd fs) from I.hok dd _ ed)
    obtain ⟨od, ho, hl⟩ := lookIn_ns hns
    exact ⟨oe, some od, e1, z1.1, nc, by rw [z1.2]; exact ho⟩
def rIsX (K : PySem.W.Frag) : List V → Hp → VK → Prop := fun xs H Q => ∃ (a C : Addr) (c : V) (b : Bool), xs = [.ref a, c] ∧ ExH H C a ∧ ExF K C ∧
  PySem.W.specialIn K (.builtin "object.__class__") "__get__" = some (some (.builtin "getset_descriptor.__get__")) ∧ PySem.W.takesIn K (.builtin "object.__class__") = some true ∧
  ((∃ u, ClsV c u ∧ PySem.W.kitOne K (.ref C) u = some b) ∨ ∃ tp cs us, c = .ref tp ∧ H tp = some (.tup cs) ∧ Paired ClsV cs us ∧ PySem.W.kitAny K (.ref C) us = some b) ∧ Q (.bl b) H
theorem call_isX : CallR X (.builtin "isinstance") (rIsX X.K) := by
  intro pins s σ H xs us Q I r h
  obtain ⟨a, C, c, b, rfl, hE, F, gt, tk, hc, q⟩ := h
  obtain ⟨u1, u2, rfl, r1, r2⟩ := vals2 r
  cases (show u1 = Value.ref a from r1)
  obtain ⟨ox, od, J⟩ := ex_inst I hE
  have Z : PySem.W.KitX X.K (.ref a) (.ref C) (fun h => PySem.W.InstAt h a ox C od) := PySem.W.kitx_exc F.cl F.ga F.gg F.sb F.ca gt tk F.mr
  rcases hc with ⟨u, k, e⟩ | ⟨tp, cs, ws, rfl, hT, k, e⟩
  · have e2 := k.eq r2
    subst e2
    exact PySem.W.kia_one Z I.kIn J e (fun z => nomatch z) fun tk => ⟨.bl b, H, I.tok tk, rfl, q⟩
  · cases (show u2 = Value.ref tp from r2)
    obtain ⟨_, its, rv, o, h1, h2, n, h3⟩ := (show ObjOk X.prog X.w H s.heap tp (.tup cs) from I.hok tp _ hT)
    have e3 := ClsV.all k rv
    subst e3
    obtain ⟨oc, odd, dt, sl⟩ := o
    simp only at h2 h3
    subst h2 h3
    exact PySem.W.kia_tup Z I.kIn J h1 e (fun z => nomatch z) fun tk => ⟨.bl b, H, I.tok tk, rfl, q⟩
end
section
variable {K : PySem.W.Frag} {B H : Hp}
theorem Rr.ex {n f : Str} {ds : List D} {v : V} (s : Same B H) (h : Rr K B H (.ex n f ds) v) : ∃ a C vs, v = .ref a ∧ TabL.cls n = some C ∧ ExAt H C f a vs ∧ Rps K B ds vs ∧ ExH H C a := by
  cases h with
  | fz r =>
    cases r with
    | @ex a C _ _ vs _ hc hx r =>
      have hx := hx.mono s
      refine ⟨a, C, vs, rfl, hc, hx, r, ?_⟩
      match vs, hx with
      | [], h => exact ⟨none, h, .inl rfl⟩
      | [v], ⟨dd, h1, h2⟩ => exact ⟨some dd, h1, .inr ⟨dd, _, rfl, h2⟩⟩
  | ct c =>
    rename_i p
    generalize H p = o at c
    cases c
theorem Rr.cl {n : Str} {v : V} (h : Rr K B H (.cl n) v) : ∃ C, v = .ref C ∧ TabL.cls n = some C := by
  cases h with
  | fz r =>
    cases r with
    | cl hc => exact ⟨_, rfl, hc⟩
  | ct c =>
    rename_i p
    generalize H p = o at c
    cases c
theorem Rps.cls {g : G0} {ns ms : List Str} {n : Str} {C : Addr} (E : ErrF g ns ms) (hn : n ∈ ns) (hc : TabL.cls n = some C) : ∀ {cs : List D} {vs : List V}, Rps K B cs vs → (∀ c ∈ cs, ∃ m ∈ ms, c = .cl m) →
    ∃ us, Paired ClsV vs us ∧ PySem.W.kitAny g.K (.ref C) us = some (cs.any fun c => decide (clsOf c = some n))
  | _, _, .nil, _ => ⟨[], .nil, rfl⟩
  | c :: cs, v :: vs, .cons r t, h => by
    obtain ⟨m, hm, rfl⟩ := h c (List.mem_cons_self ..)
    obtain ⟨us, h1, h2⟩ := Rps.cls E hn hc t fun c hc => h c (List.mem_cons_of_mem _ hc)
    cases r with
    | @cl Cm _ hcm =>
      have k := E.is n hn m hm C Cm hc hcm
      refine ⟨.ref Cm :: us, .cons (.own Cm) h1, ?_⟩
      unfold PySem.W.kitAny
      rw [k, List.any_cons]
      have e : decide (clsOf (.cl m) = some n) = decide (n = m) := by
        show decide (some m = some n) = _
        by_cases z : n = m
        · simp [z]
        · have z2 : ¬ m = n := fun y => z y.symm
          simp [z, z2]
      rw [e]
      cases decide (n = m) with
      | true => rfl
      | false => exact h2
end
theorem ca_isX {g : G0} {ns ms : List Str} (E : ErrF g ns ms) : CaI g (.builtin "isinstance") (isX ns ms) := by
  refine ⟨rIsX g.K, fun c X hX => by rw [← hX.eK]; exact call_isX, fun A B H vs env xs ds res Q S rr e q => ?_⟩
  unfold isX at e
  split at e
  · rename_i n f fs m
    split at e
    · rename_i hh
      cases e
      obtain ⟨x, y, rfl, r1, r2⟩ := pr2 rr
      obtain ⟨a, C, ws, rfl, hc, _, _, hE⟩ := r1.ex S.same
      obtain ⟨Cm, rfl, hcm⟩ := r2.cl
      exact ⟨a, C, _, _, rfl, hE, E.ex n hh.1 C hc, E.gt, E.tk, .inl ⟨_, .own Cm, E.is n hh.1 m hh.2 C Cm hc hcm⟩, q B H _ (Same.refl _) (.im S (.bl _))⟩
    · cases e
  · rename_i n f fs cs
    split at e
    · rename_i hh
      cases e
      obtain ⟨x, y, rfl, r1, r2⟩ := pr2 rr
      obtain ⟨a, C, ws, rfl, hc, _, _, hE⟩ := r1.ex S.same
      obtain ⟨tp, xs, rfl, hT, _, hx⟩ := r2.tup S.same
      obtain ⟨us, k1, k2⟩ := Rps.cls E hh.1 hc hx fun c hc => clsIs_of (List.all_eq_true.mp hh.2 c hc)
      exact ⟨a, C, _, _, rfl, hE, E.ex n hh.1 C hc, E.gt, E.tk, .inr ⟨tp, xs, us, rfl, hT, k1, k2⟩, q B H _ (Same.refl _) (.im S (.bl _))⟩
    · cases e
  · rename_i n f fs t
    split at e
    · rename_i hh
      cases e
      obtain ⟨x, y, rfl, r1, r2⟩ := pr2 rr
      obtain ⟨a, C, ws, rfl, hc, _, _, hE⟩ := r1.ex S.same
      obtain ⟨hn, rfl⟩ := hh
      have : y = .ty "ValueError" := by
        cases r2 with
        | fz r => cases r; rfl
        | ct c =>
          rename_i p
          generalize H p = o at c
          cases c
      subst this
      exact ⟨a, C, _, _, rfl, hE, E.ex n hn C hc, E.gt, E.tk, .inl ⟨_, .ty "ValueError", E.ve n hn C hc⟩, q B H _ (Same.refl _) (.im S (.bl _))⟩
    · cases e
  · cases e
def atX (ns : List Str) (f : Str) : List D → Option Vl
  | [.ex n f' [.int i]] => if f' = f ∧ n ∈ ns then some (.im (.int i)) else none
  | _ => none
def rAtX (K : PySem.W.Frag) (f : Str) : V → Hp → VK → Prop := fun x H Q => ∃ (a C dd : Addr) (fs : List (Str × V)) (v : V), x = .ref a ∧ H a = some (ExK C (some dd) a) ∧ H dd = some (.xd fs) ∧ fs.lookup f = some v ∧ XfC K C ∧ PySem.W.findIn K (.ref C) f = some none ∧ Q v H
section
variable {X : Cx} {e : Expr} {te : TE} {f : Str} {pos : Pos}
theorem pe_atX (he : PE X e te) (hb : attributeBase e f X.env (eval e X.env) = eval e X.env) : PE X (.Attribute e f pos) (tUn (rAtX X.K f) te) := by
  refine ⟨fun pins s σ H Q I h => attr_of hb (thn (he.run pins s σ H _ I h) fun u s1 hh => ?_)⟩
  obtain ⟨x, H1, I1, rx, a, C, dd, fs, v, rfl, ea, ed, l, T, hno, q⟩ := hh
  cases (show u = Value.ref a from rx)
  obtain ⟨⟨oe, vs, e1, z1, d1⟩, _⟩ := (show ObjOk X.prog X.w H1 s1.heap a (ExK C (some dd) a) from I1.hok a _ ea)
  obtain ⟨mA, hns, hr⟩ := (show ObjOk X.prog X.w H1 s1.heap dd (.xd fs) from I1.hok dd _ ed)
  obtain ⟨od, ho, hl⟩ := lookIn_ns hns
  obtain ⟨w, hu, ru⟩ := RelO.some_of (v := v) (o := mA f) (by rw [← l]; exact hr f)
  have J : PySem.W.InstAt s1.heap a oe C (some od) := ⟨e1, z1.1, by unfold PySem.W.notCls; rw [d1], by rw [z1.2]; exact ho⟩
  exact HandSPX.exc_get I1.kIn J T.ga T.gg T.exC (PySem.W.findObj_own T.hdC hno rfl (by rw [hl, hu])) (handed_of ru) ⟨v, H1, I1.tok _, ru, q⟩
end
theorem ee_atX {g : G0} {c : Ct} {e : Expr} {m : M Vl} {f : Str} {ns : List Str} {pos : Pos} (h : EE g c e m) (hx : ∀ n ∈ ns, ∀ C, TabL.cls n = some C → XfC g.K C ∧ PySem.W.findIn g.K (.ref C) f = some none) (hb : ∀ env : PySem.Env, attributeBase e f env (eval e env) = eval e env) :
    EE g c (.Attribute e f pos) (eP (atX ns f) (cA m cN)) := by
  obtain ⟨t, h1, h2⟩ := h
  refine ⟨tUn (rAtX g.K f) t, fun X hX => by rw [← hX.eK]; exact pe_atX (h1 X hX) (hb X.env), fun A => sx_un (fun A B H vs env xs ds res Q S rr e q => ?_) (h2 A)⟩
  unfold atX at e
  split at e
  · rename_i n f' i
    split at e
    · rename_i hf
      obtain ⟨hf, hns⟩ := hf
      subst hf
      cases e
      cases rr with
      | cons r0 rn =>
        cases rn
        obtain ⟨a, C, ws, rfl, hc, hA, hr, _⟩ := r0.ex S.same
        cases hr with
        | cons ri rn =>
          cases rn
          cases ri
          obtain ⟨dd, k1, k2⟩ := hA
          obtain ⟨k3, k4⟩ := hx n hns C hc
          exact ⟨a, C, dd, _, _, rfl, k1, k2, by simp [List.lookup], k3, k4, q B H _ (Same.refl _) (.im S (.int i))⟩
    · cases e
  · cases e
/-- the name of an error's class -/
theorem ee_cl {g : G0} {c : Ct} {n : Str} {C : Addr} {pos : Pos} (hg : GlC c n) (hd : (n == ("__debug__" : Str)) = false) (hm : g.mg n = some (.ref C)) (hc : TabL.cls n = some C) (hh : PySem.W.keepIn g.K (.ref C) = true) : EE g c (.Name n pos) (eC (.cl n)) := by
  refine ⟨tC (.ref C), fun X hX => ⟨fun pins s σ H Q I h => ?_⟩, fun A => sx_con fun B => .cl hc⟩
  exact ld_glob I (gl_of hX hg) (by rw [hX.em]; exact hm) ⟨.ref C, H, I, rfl, h⟩ hd
end PD
namespace PD
variable [PD.TabL]
open PySem PySem.Spec PyProof.Rows L2
structure FeF (K : PySem.W.Frag) (CF : Addr) : Prop where
  sp : PySem.W.specialIn K (.ref CF) "__getattribute__" = some (some (.builtin "type.__getattribute__"))
  rd : PySem.W.readsIn K CF (.type "type") = true
  fc : PySem.W.findCls K (.ref CF) (.type "type") "__init__" = some (.val (.builtin "ValueError.__init__"))
theorem init_ok {g : G0} {st : Stmt} {fI CF : Addr} {fd : FuncData} {qual x prm f msg : Str} {j : Nat} {p1 p2 p3 p4 p5 p6 p7 p8 p9 p10 : Pos} (F : Fun g.K "__init__" qual st fI fd) (S : FnScope ["self", prm] ["self", prm] (defScope st))
    (hB : defBody st = [.Expr (.Call (.Attribute (.Name x p1) "__init__" p2) [.Name "self" p3, .Constant (.str msg) j p4] [] p5) p6, .Assign [.Attribute (.Name "self" p7) f p8] (.Name prm p9) p10])
    (v1 : Vis (defScope st) "self") (v2 : Vis (defScope st) prm) (hd : (prm == ("__debug__" : Str)) = false) (hdc : (prm == ("__classdict__" : Str)) = false) (gx : (defScope st).names.lookup x = some .globalImplicit) (hdx : (x == ("__debug__" : Str)) = false) (mx : g.mg x = some (.ref CF)) (E : FeF g.K CF)
    (hs : ∀ env : PySem.Env, swapsWith (.Name prm p9) (some (.Attribute (.Name "self" p7) f p8)) p10.line env = pure false)
    (hc : ∀ env : PySem.Env, env.scope = defScope st → ∃ pl : Sem Bool, eval (.Call (.Attribute (.Name x p1) "__init__" p2) [.Name "self" p3, .Constant (.str msg) j p4] [] p5) env = (do
      let ov ← eval (.Name x p1) env
      standAt p2.atName
      let (f, first) ← holding [ov] (getMethod ov "__init__" pl)
      callWith p5 f first (backTo p5 (starEach [.Name "self" p3, .Constant (.str msg) j p4] env)) (backToKw p5 (keywordEach [] env))))
    (hs2 : ∀ env : PySem.Env, swapsWith (.Call (.Attribute (.Name x p1) "__init__" p2) [.Name "self" p3, .Constant (.str msg) j p4] [] p5) none p6.line env = pure false) :
    FnOk g.P g.w g.K g.mg g.base CX0 1 fI fd ["self", prm] (spI g.K f) := by
  refine F.ok S (fun vs H Q E ⟨a, C, y, e, _⟩ => by rw [e]; rfl) fun cdv A outer s H vs Q E2 hr h => ?_
  rw [hB]
  obtain ⟨pl, hc⟩ := hc (cxOf CX0 g.P g.w g.K g.mg g.base ["self", prm] qual (defScope st) fI cdv A outer s H E2).nox.env rfl
  refine ⟨_, pss_cons (ps_expr (pe_feinit (x := x) (pl := pl) (hc := hc) gx hdx mx E.sp E.rd E.fc (pa_cons (pe_var (i := 0) rfl v1) (pa_cons pe_str pa_nil))) (hs2 _)) (pss_one (ps_ost (pe_var (i := 0) rfl v1) (pe_var (i := 1) rfl v2 hd hdc) (hs _))), ?_⟩
  obtain ⟨a, C, y, rfl, T, hno, ha, q⟩ := h
  exact ⟨_, rfl, a, C, _, rfl, by simp, T, ha, _, rfl, _, rfl, a, C, rfl, T, hno, .inl ⟨ha, q⟩⟩
section
variable {g : G0} {c : Ct} {n f x : Str} {k : Nat} {e : Expr} {m : M Vl} {p p2 pos pos2 : Pos} {j : Nat} {y : Str}
theorem ex_raise1E (h : ∃ C, Er1 g n f C k) (hk : k + 1 ≤ c.k) (hg : GlC c n) (hd : (n == ("__debug__" : Str)) = false) (he : EE g c e m) (pl : Pl e) (hpl : ∀ env : PySem.Env, (backTo pos (starEach [] env)).any (·.1) = false) :
    EX g c (.Raise (some (.Call (.Name n p) [e] [] pos)) none pos2) (sRaise1 n f (cA m cN)) := by
  obtain ⟨C, h⟩ := h
  exact ex_raise1 h hk hg hd he pl hpl
theorem ee_clE (hg : GlC c n) (hd : (n == ("__debug__" : Str)) = false) (h : ∃ C, g.mg n = some (.ref C) ∧ TabL.cls n = some C ∧ PySem.W.keepIn g.K (.ref C) = true) : EE g c (.Name n pos) (eC (.cl n)) := by
  obtain ⟨C, h1, h2, h3⟩ := h
  exact ee_cl hg hd h1 h2 h3
theorem ex_tryE {body : List Stmt} {m : SM} {n mm : Str} {i j : Nat} {np n2p mp ap pos pos' : Pos} (hb : EXs g c body m) (hi : c.N[i]? = some n) (li : ∀ env : PySem.Env, env.scope = c.sc → env.kindOf n = some .local) (hj : c.N[j]? = some mm) (lj : ∀ env : PySem.Env, env.scope = c.sc → env.kindOf mm = some .local) (hv : Vis c.sc n)
    (hnd : (n == ("__debug__" : Str)) = false) (hnc : (n == ("__classdict__" : Str)) = false) (hg : GlC c x) (hd : (x == ("__debug__" : Str)) = false) (h : ∃ CF, g.mg x = some (.ref CF) ∧ ∀ n C, TabL.cls n = some C → PySem.W.exmOne g.K (.ref C) (.ref CF) = some true) :
    EX g c (.Try body [.ExceptHandler (some (.Name x np)) (some n) [.Assign [.Name mm mp] (.Name n n2p) ap] pos'] [] [] pos) (sTryK m i j) := by
  obtain ⟨CF, h1, h2⟩ := h
  exact ex_try hb hi li hj lj hv hnd hnc hg hd h1 h2
end
/-- what stands in a class -/
def clsBody : Stmt → List Stmt
  | .ClassDef _ _ _ b _ _ _ _ _ _ _ => b
  | _ => []
/-- the classes by name -/
def clsL (L : List (Str × Addr)) (n : Str) : Option Addr := L.lookup n
theorem clsL_all {L : List (Str × Addr)} {P : Str → Addr → Prop} (h : ∀ p ∈ L, P p.1 p.2) (n : Str) (C : Addr) (e : clsL L n = some C) : P n C := by
  induction L with
  | nil => cases e
  | cons q L ih =>
    unfold clsL at e
    rw [List.lookup_cons] at e
    by_cases hq : n = q.1
    · subst hq
      have : (q.1 == q.1) = true := by simp
      rw [this] at e
      cases e
      exact h q (List.mem_cons_self ..)
    · have : (n == q.1) = false := by simpa using hq
      rw [this] at e
      exact ih (fun p hp => h p (List.mem_cons_of_mem _ hp)) e
end PD
namespace PD
variable [PD.TabL]
open PySem PySem.Spec PyProof.Rows L2
section
variable {e : Env} {n f : Str} {ms : M (List Vl)} {m : SM} {i j : Nat} {F : Fs} {Q : Fl → Env → Prop}
theorem W_sRaise0 : @W _ (sRaise0 n) e ⟨Q⟩ = Q (.rt (.fr (.ex n "" []))) e := W_eq
theorem W_sRaise1 : @W _ (sRaise1 n f ms) e ⟨Q⟩ = @W _ ms e ⟨fun rs e1 => @WO _ (cnts e1 rs) ⟨fun ds => match ds with
    | [.int i] => Q (.rt (.fr (.ex n f [.int i]))) e1
    | _ => False⟩⟩ := by
  unfold sRaise1
  simp only [W_eq, WO_eq]
  cases ms e with
  | none => rfl
  | some p =>
    dsimp only
    cases cnts p.2 p.1 with
    | none => rfl
    | some ds =>
      cases ds with
      | nil => rfl
      | cons d t => cases t <;> cases d <;> rfl
theorem W_sTryK : @W _ (sTryK m i j) e ⟨Q⟩ = @W _ m e ⟨fun fl e1 => match exOf fl with
    | some x => Q .nx (((e1.set i (.im (.ex x.1 x.2.1 x.2.2))).set j (.im (.ex x.1 x.2.1 x.2.2))).set i .em)
    | none => match fl with
      | .nx => Q .nx e1
      | _ => False⟩ := by
  unfold sTryK
  simp only [W_eq]
  cases m e with
  | none => rfl
  | some p =>
    dsimp only
    cases h : exOf p.1 with
    | some x =>
      obtain ⟨a, b, c⟩ := x
      rfl
    | none =>
      dsimp only
      cases p.1 <;> rfl
theorem W_sCallX : @W _ (sCallX F ms) e ⟨Q⟩ = @W _ ms e ⟨fun rs e1 => @WO _ (cnts e1 rs) ⟨fun ds => @WO _ (F.sem ds) ⟨fun p => match exV p.1 with
    | some x => @W _ (callE (Fk F.sig (.im .non) p.2) rs) e1 ⟨fun _ e2 => Q (.rt (.fr (.ex x.1 x.2.1 x.2.2))) e2⟩
    | none => @W _ (callE (Fk F.sig p.1 p.2) rs) e1 ⟨fun _ e2 => Q .nx e2⟩⟩⟩⟩ := by
  unfold sCallX
  simp only [W_eq, WO_eq]
  cases ms e with
  | none => rfl
  | some p =>
    dsimp only
    cases cnts p.2 p.1 with
    | none => rfl
    | some ds =>
      dsimp only
      cases F.sem ds with
      | none => rfl
      | some q =>
        obtain ⟨r, o⟩ := q
        dsimp only
        cases h : exV r with
        | some x =>
          obtain ⟨a, b, c⟩ := x
          dsimp only
          cases callE (Fk F.sig (.im .non) o) p.1 p.2 <;> rfl
        | none =>
          dsimp only
          cases callE (Fk F.sig r o) p.1 p.2 <;> rfl
end
theorem FnN_sem {F : Fs} {ds o : List D} {r : Vl} (h : F.sem ds = some (r, o)) (hx : exV r = none) : (FnN F).sem ds = some (r, o) := by
  show (match F.sem ds with
    | some (r, ds') => match exV r with
      | some _ => none
      | none => some (r, ds')
    | none => none) = _
  rw [h]
  dsimp only
  rw [hx]
theorem FnN_sig {F : Fs} : (FnN F).sig = F.sig := rfl
theorem Fk_sem {sig : List Bool} {r : Vl} {o ds : List D} : (Fk sig r o).sem ds = some (r, o) := rfl
theorem Fk_sig {sig : List Bool} {r : Vl} {o : List D} : (Fk sig r o).sig = sig := rfl
theorem exV_im {d : D} : exV (.im d) = none := rfl
theorem exV_ex {n f : Str} {ds : List D} : exV (.fr (.ex n f ds)) = some (n, f, ds) := rfl
theorem exOf_ex {n f : Str} {ds : List D} : exOf (.rt (.fr (.ex n f ds))) = some (n, f, ds) := rfl
theorem exOf_nx : exOf .nx = none := rfl
end PD
namespace PD
open PySem PySem.Spec PyProof.Rows L2
theorem top_walkX {l : PySem.W.OpenLaw} {n k : Nat} {q : Program} {loose : List Str} {XP : (Str → Option Value) → Heap → Prop} {YP : World → Heap → Prop} {d : DefRec} {K : Params → PySem.W.Frag} {x : Str} {F : Fs}
    (hn : l.most = some n) (hn2 : n ≤ sizeLine) (hdf : d.params.defaults = []) (hr : Room k callerA) (hY : ∀ (w : World) (h : Heap), YP w h → (K w.params).In h)
    (hF : ∀ (w : World) (mg : Str → Option Value) (fa : Addr) (h : Heap), (K w.params).In h → h.Ns mainGlobals mg → mg d.name = some (.ref fa) →
      ∃ (fd : FuncData) (L : List (Str × Addr)), (∀ (s : Shared) (u : Value), BindsTo s fd ⟨[u], []⟩ [(x, u)]) ∧ ∀ base : Heap, (K w.params).In base → base.Ns mainGlobals mg → FnG ⟨l.prog, w, K w.params, mg, base⟩ k fa fd [x] (@spF ⟨[], clsL L⟩ (K w.params) F))
    (hsig : F.sig = [false]) (hsem : ∀ ns : List Int, ns.length ≤ n → ∃ o, F.sem [.sc ns] = some (.im (.bl true), o)) :
    PySem.W.WalkO q loose XP YP l.row.toRowW d [] (fun f vs => PySem.call f vs) := by
  refine Att.attach_call hn hdf fun w s₀ s1 mg mb fa o pm cd doc a vs ns G Y ho hd hcd hmg hobj hints hlen hg => ?_
  obtain ⟨fd, L, hb, hG⟩ := hF w mg fa _ (hY w _ Y) G.T.g hmg
  letI I0 : TabL := ⟨[], clsL L⟩
  refine top_call (hY w _ Y) G.T.g G.T.b G.T.builtins G.T.nolimit hg hobj hints (Nat.le_trans hlen hn2) hr hG hb fun H hS => ?_
  obtain ⟨o, ho⟩ := hsem ns hlen
  have hT0 : I0.T = [] := rfl
  exact law_sp hsig ho (fun p hp => by rw [hT0] at hp; cases hp) (fun z => by
    obtain ⟨p, hp, _⟩ := List.mem_map.mp z
    rw [hT0] at hp
    cases hp) hS
end PD
namespace L_k35
open PySem PySem.Spec PyProof.Rows L2 PD
variable [PD.TabL]
def topS (i : Nat) : Stmt := PySem.Challenge.pw_wetfields_k35_loans_that_can_be.main.body.getD i (.Pass ⟨0, 0, 0, 0⟩)
abbrev s__law_mix : Stmt := topS 21
abbrev s__law_pick : Stmt := topS 23
abbrev s__law_names : Stmt := topS 24
abbrev s__law_terrace : Stmt := topS 25
abbrev s__law_holders : Stmt := topS 26
abbrev s__law_loans : Stmt := topS 27
abbrev s__law_case : Stmt := topS 28
abbrev s__law_left : Stmt := topS 22
abbrev s_gate_row : Stmt := topS 15
abbrev s_right_of : Stmt := topS 16
abbrev s_holder_of : Stmt := topS 18
abbrev s_look_loans : Stmt := topS 19
abbrev s__law_bent : Stmt := topS 30
abbrev s__law_caught : Stmt := topS 31
abbrev s__law_first_bad : Stmt := topS 29
abbrev s__law_place : Stmt := topS 32
abbrev s_law : Stmt := topS 33
theorem bt_ValueError : bootBuiltins "ValueError" = some (.type "ValueError") := by decide +kernel
theorem bt_abs : bootBuiltins "abs" = some (.builtin "abs") := by decide +kernel
theorem bt_all : bootBuiltins "all" = some (.builtin "all") := by decide +kernel
theorem bt_int : bootBuiltins "int" = some (.type "int") := by decide +kernel
theorem bt_isinstance : bootBuiltins "isinstance" = some (.builtin "isinstance") := by decide +kernel
theorem bt_len : bootBuiltins "len" = some (.builtin "len") := by decide +kernel
theorem bt_list : bootBuiltins "list" = some (.type "list") := by decide +kernel
theorem bt_min : bootBuiltins "min" = some (.builtin "min") := by decide +kernel
theorem bt_repr : bootBuiltins "repr" = some (.builtin "repr") := by decide +kernel
theorem bt_set : bootBuiltins "set" = some (.type "set") := by decide +kernel
theorem bt_sorted : bootBuiltins "sorted" = some (.builtin "sorted") := by decide +kernel
theorem bt_tuple : bootBuiltins "tuple" = some (.type "tuple") := by decide +kernel
abbrev si_NotHeld : Stmt := (clsBody (topS 2)).getD 0 (.Pass ⟨0, 0, 0, 0⟩)
structure Hyp (g : G0) : Prop where
  d__law_mix : DefAt g "_law_mix" s__law_mix ["_law_cell", "_law_k"]
  d__law_pick : DefAt g "_law_pick" s__law_pick ["_law_left_here", "_law_many"]
  d__law_names : DefAt g "_law_names" s__law_names ["_law_left_here", "_law_many", "_law_told"]
  d__law_terrace : DefAt g "_law_terrace" s__law_terrace ["_law_left_here", "_law_owners", "_law_great"]
  d__law_holders : DefAt g "_law_holders" s__law_holders ["_law_terrace_here", "_law_loans_here"]
  d__law_loans : DefAt g "_law_loans" s__law_loans ["_law_left_here", "_law_terrace_here", "_law_people", "_law_many", "_law_days"]
  d__law_case : DefAt g "_law_case" s__law_case ["_law_left_here", "_law_great"]
  d__law_left : DefAt g "_law_left" s__law_left ["_law_script", "_law_k"]
  d_gate_row : DefAt g "gate_row" s_gate_row ["terrace", "gate"]
  d_right_of : DefAt g "right_of" s_right_of ["terrace", "gate", "day"]
  d_holder_of : DefAt g "holder_of" s_holder_of ["terrace", "loans", "gate", "day"]
  d_look_loans : DefAt g "look_loans" s_look_loans ["terrace", "loans"]
  d__law_bent : DefAt g "_law_bent" s__law_bent ["_law_left_here", "_law_terrace_here", "_law_people", "_law_loans_here"]
  d__law_caught : DefAt g "_law_caught" s__law_caught ["_law_terrace_here", "_law_loans_here"]
  d__law_first_bad : DefAt g "_law_first_bad" s__law_first_bad ["_law_terrace_here", "_law_loans_here"]
  d__law_place : DefAt g "_law_place" s__law_place ["_law_caught_here"]
  z_ValueError : g.mg "ValueError" = none
  z_abs : g.mg "abs" = none
  z_all : g.mg "all" = none
  z_enumerate : g.mg "enumerate" = none
  z_int : g.mg "int" = none
  z_isinstance : g.mg "isinstance" = none
  z_len : g.mg "len" = none
  z_list : g.mg "list" = none
  z_min : g.mg "min" = none
  z_range : g.mg "range" = none
  z_repr : g.mg "repr" = none
  z_set : g.mg "set" = none
  z_sorted : g.mg "sorted" = none
  z_tuple : g.mg "tuple" = none
  er_NotHeld : ∃ C, Er1 g "NotHeld" "place" C 1
  xc_FieldError : ∃ CF, g.mg "FieldError" = some (.ref CF) ∧ ∀ n C, TabL.cls n = some C → PySem.W.exmOne g.K (.ref C) (.ref CF) = some true
  cl_BadRow : ∃ C, g.mg "BadRow" = some (.ref C) ∧ TabL.cls "BadRow" = some C ∧ PySem.W.keepIn g.K (.ref C) = true
  cl_Clash : ∃ C, g.mg "Clash" = some (.ref C) ∧ TabL.cls "Clash" = some C ∧ PySem.W.keepIn g.K (.ref C) = true
  cl_NoDeed : ∃ C, g.mg "NoDeed" = some (.ref C) ∧ TabL.cls "NoDeed" = some C ∧ PySem.W.keepIn g.K (.ref C) = true
  cl_NoField : ∃ C, g.mg "NoField" = some (.ref C) ∧ TabL.cls "NoField" = some C ∧ PySem.W.keepIn g.K (.ref C) = true
  cl_NoGate : ∃ C, g.mg "NoGate" = some (.ref C) ∧ TabL.cls "NoGate" = some C ∧ PySem.W.keepIn g.K (.ref C) = true
  cl_NoLet : ∃ C, g.mg "NoLet" = some (.ref C) ∧ TabL.cls "NoLet" = some C ∧ PySem.W.keepIn g.K (.ref C) = true
  cl_NoRow : ∃ C, g.mg "NoRow" = some (.ref C) ∧ TabL.cls "NoRow" = some C ∧ PySem.W.keepIn g.K (.ref C) = true
  cl_NoWant : ∃ C, g.mg "NoWant" = some (.ref C) ∧ TabL.cls "NoWant" = some C ∧ PySem.W.keepIn g.K (.ref C) = true
  cl_NotHeld : ∃ C, g.mg "NotHeld" = some (.ref C) ∧ TabL.cls "NotHeld" = some C ∧ PySem.W.keepIn g.K (.ref C) = true
  cl_TooHigh : ∃ C, g.mg "TooHigh" = some (.ref C) ∧ TabL.cls "TooHigh" = some C ∧ PySem.W.keepIn g.K (.ref C) = true
  cl_TooMuch : ∃ C, g.mg "TooMuch" = some (.ref C) ∧ TabL.cls "TooMuch" = some C ∧ PySem.W.keepIn g.K (.ref C) = true
  cl_Used : ∃ C, g.mg "Used" = some (.ref C) ∧ TabL.cls "Used" = some C ∧ PySem.W.keepIn g.K (.ref C) = true
  xa_place : ∀ n ∈ (["NotHeld"] : List Str), ∀ C, TabL.cls n = some C → XfC g.K C ∧ PySem.W.findIn g.K (.ref C) "place" = some none
  ei : ErrF g ["NotHeld"] ["BadRow", "Clash", "NoDeed", "NoField", "NoGate", "NoLet", "NoRow", "NoWant", "TooHigh", "TooMuch", "Used", "NotHeld"]
theorem sc__law_mix : FnScope ["_law_cell", "_law_k", "_law_m"] ["_law_cell", "_law_k"] (defScope s__law_mix) := ⟨rfl, rfl, rfl, by decide +kernel, rfl, by decide +kernel, by decide +kernel⟩
def b__law_mix : SM := (sSeq (sAsg (eP modD (cA (eP mulD (cA (eP addD (cA (eP addD (cA (eP modD (cA (eV 0) (cA (eC (.int 2147483629)) cN))) (cA (eP mulD (cA (eP mulD (cA (eV 1) (cA (eV 1) cN))) (cA (eC (.int 7919)) cN))) cN))) (cA (eC (.int 11)) cN))) (cA (eC (.int 48271)) cN))) (cA (eC (.int 2147483647)) cN))) (gN 2))
    (sSeq (sRet (eP modD (cA (eP mulD (cA (eV 2) (cA (eV 2) cN))) (cA (eC (.int 1999999973)) cN))))
    sNil))
def F__law_mix : Fs := ⟨runF [false, false] 3 b__law_mix, [false, false]⟩
theorem sem__law_mix (ds : List D) : F__law_mix.sem ds = runF [false, false] 3 b__law_mix ds := rfl
theorem sig__law_mix : F__law_mix.sig = [false, false] := rfl
theorem fn__law_mix {g : G0} (h : Hyp g) : FnI g "_law_mix" 1 F__law_mix :=
  fn_rule h.d__law_mix sc__law_mix rfl (es_cons (es_set (i := 2) rfl (by first | exact .inl rfl | exact .inr rfl) (ee_bin op_modD (ee_bin op_mulD (ee_bin op_addD (ee_bin op_addD (ee_bin op_modD (ee_var (i := 0) rfl (by first | exact .inl rfl | exact .inr (.inl rfl) | exact .inr (.inr rfl)) (by decide) (by decide)) ee_int) (ee_bin op_mulD (ee_bin op_mulD (ee_var (i := 1) rfl (by first | exact .inl rfl | exact .inr (.inl rfl) | exact .inr (.inr rfl)) (by decide) (by decide)) (ee_var (i := 1) rfl (by first | exact .inl rfl | exact .inr (.inl rfl) | exact .inr (.inr rfl)) (by decide) (by decide))) ee_int)) ee_int) ee_int) ee_int) (fun _ => rfl) (.inl rfl))
    (es_cons (es_ret (ee_bin op_modD (ee_bin op_mulD (ee_var (i := 2) rfl (by first | exact .inl rfl | exact .inr (.inl rfl) | exact .inr (.inr rfl)) (by decide) (by decide)) (ee_var (i := 2) rfl (by first | exact .inl rfl | exact .inr (.inl rfl) | exact .inr (.inr rfl)) (by decide) (by decide))) ee_int))
    es_nil))
theorem sc__law_pick : FnScope ["_law_left_here", "_law_many", "_law_digit"] ["_law_left_here", "_law_many"] (defScope s__law_pick) := ⟨rfl, rfl, rfl, by decide +kernel, rfl, by decide +kernel, by decide +kernel⟩
def b__law_pick : SM := (sSeq (sAsg (eP addD (cA (eP ixD (cA (eV 0) (cA (eC (.int 2)) cN))) (cA (eC (.int 1)) cN))) (gS setDk (eV 0) (eC (.int 2))))
    (sSeq (sIf (mB (eP gtD (cA (eP ixD (cA (eV 0) (cA (eC (.int 0)) cN))) (cA (eC (.int 0)) cN)))) (sSeq (sAsg (eP modD (cA (eP ixD (cA (eV 0) (cA (eC (.int 0)) cN))) (cA (eV 1) cN))) (gN 2))
    (sSeq (sAsg (eP divD (cA (eP ixD (cA (eV 0) (cA (eC (.int 0)) cN))) (cA (eV 1) cN))) (gS setDk (eV 0) (eC (.int 0))))
    (sSeq (sRet (eV 2))
    sNil))) sNil)
    (sSeq (sRet (eP modD (cA (eP divD (cA (eCallF F__law_mix (cA (eCallF F__law_mix (cA (eP ixD (cA (eV 0) (cA (eC (.int 1)) cN))) (cA (eP ixD (cA (eV 0) (cA (eC (.int 2)) cN))) cN))) (cA (eP addD (cA (eP ixD (cA (eV 0) (cA (eC (.int 2)) cN))) (cA (eC (.int 64)) cN))) cN))) (cA (eC (.int 64)) cN))) (cA (eV 1) cN))))
    sNil)))
def F__law_pick : Fs := ⟨runF [true, false] 3 b__law_pick, [true, false]⟩
theorem sem__law_pick (ds : List D) : F__law_pick.sem ds = runF [true, false] 3 b__law_pick ds := rfl
theorem sig__law_pick : F__law_pick.sig = [true, false] := rfl
theorem fn__law_pick {g : G0} (h : Hyp g) : FnI g "_law_pick" 2 F__law_pick :=
  fn_rule h.d__law_pick sc__law_pick rfl (es_cons (es_asg (ee_bin op_addD (ee_ix (ee_var (i := 0) rfl (by first | exact .inl rfl | exact .inr (.inl rfl) | exact .inr (.inr rfl)) (by decide) (by decide)) ee_int (fun _ _ => rfl)) ee_int) (eg_sub se_any (ee_var (i := 0) rfl (by first | exact .inl rfl | exact .inr (.inl rfl) | exact .inr (.inr rfl)) (by decide) (by decide)) ee_int (fun _ _ => rfl)) (fun _ => rfl) (fun env he => by cases env; cases he; rfl) (fun _ => rfl))
    (es_cons (es_if (et_cmp op_gtD (ee_ix (ee_var (i := 0) rfl (by first | exact .inl rfl | exact .inr (.inl rfl) | exact .inr (.inr rfl)) (by decide) (by decide)) ee_int (fun _ _ => rfl)) ee_int rfl) (es_cons (es_set (i := 2) rfl (by first | exact .inl rfl | exact .inr rfl) (ee_bin op_modD (ee_ix (ee_var (i := 0) rfl (by first | exact .inl rfl | exact .inr (.inl rfl) | exact .inr (.inr rfl)) (by decide) (by decide)) ee_int (fun _ _ => rfl)) (ee_var (i := 1) rfl (by first | exact .inl rfl | exact .inr (.inl rfl) | exact .inr (.inr rfl)) (by decide) (by decide))) (fun _ => rfl) (.inl rfl))
    (es_cons (es_asg (ee_bin op_divD (ee_ix (ee_var (i := 0) rfl (by first | exact .inl rfl | exact .inr (.inl rfl) | exact .inr (.inr rfl)) (by decide) (by decide)) ee_int (fun _ _ => rfl)) (ee_var (i := 1) rfl (by first | exact .inl rfl | exact .inr (.inl rfl) | exact .inr (.inr rfl)) (by decide) (by decide))) (eg_sub se_any (ee_var (i := 0) rfl (by first | exact .inl rfl | exact .inr (.inl rfl) | exact .inr (.inr rfl)) (by decide) (by decide)) ee_int (fun _ _ => rfl)) (fun _ => rfl) (fun env he => by cases env; cases he; rfl) (fun _ => rfl))
    (es_cons (es_ret (ee_var (i := 2) rfl (by first | exact .inl rfl | exact .inr (.inl rfl) | exact .inr (.inr rfl)) (by decide) (by decide)))
    es_nil))) es_nil)
    (es_cons (es_ret (ee_bin op_modD (ee_bin op_divD (ee_callF (fn__law_mix h) (by decide) rfl (ea_cons (ee_callF (fn__law_mix h) (by decide) rfl (ea_cons (ee_ix (ee_var (i := 0) rfl (by first | exact .inl rfl | exact .inr (.inl rfl) | exact .inr (.inr rfl)) (by decide) (by decide)) ee_int (fun _ _ => rfl)) (ea_cons (ee_ix (ee_var (i := 0) rfl (by first | exact .inl rfl | exact .inr (.inl rfl) | exact .inr (.inr rfl)) (by decide) (by decide)) ee_int (fun _ _ => rfl)) ea_nil (fun _ _ => rfl)) (fun _ _ => rfl)) (fun _ _ => rfl) (fun _ => rfl) (by decide)) (ea_cons (ee_bin op_addD (ee_ix (ee_var (i := 0) rfl (by first | exact .inl rfl | exact .inr (.inl rfl) | exact .inr (.inr rfl)) (by decide) (by decide)) ee_int (fun _ _ => rfl)) ee_int) ea_nil (fun _ _ => rfl)) (fun _ _ => rfl)) (fun _ _ => rfl) (fun _ => rfl) (by decide)) ee_int) (ee_var (i := 1) rfl (by first | exact .inl rfl | exact .inr (.inl rfl) | exact .inr (.inr rfl)) (by decide) (by decide))))
    es_nil)))
theorem sc__law_names : FnScope ["_law_left_here", "_law_many", "_law_told", "_law_letters", "_law_found", "_law_words", "_law_k", "_law_size", "_law_name", "_law_some", "_law_turn", "_law_sign", "_law_one"] ["_law_left_here", "_law_many", "_law_told"] (defScope s__law_names) := ⟨rfl, rfl, rfl, by decide +kernel, rfl, by decide +kernel, by decide +kernel⟩
def ce__law_names_1 : M Vl := (eV 12)
def cp__law_names_1 : M Vl := eComp [12] (mLst (eV 9)) (gN 12) (mB (eP notInD (cA (eV 12) (cA (eV 4) cN)))) ce__law_names_1
def ce__law_names_2 : M Vl := (eP addD (cA (eSl (eV 8) oN (oS (eC (.int 5)))) (cA (eV 11) cN)))
def cp__law_names_2 : M Vl := eComp [11] (mStr (eV 3)) (gN 11) (rt true) ce__law_names_2
def ce__law_names_3 : M Vl := (eP ixD (cA (eV 3) (cA (eCallF F__law_pick (cA (eV 0) (cA (eC (.int 26)) cN))) cN)))
def cp__law_names_3 : M Vl := eComp [10] (mR1 (cA (eV 7) cN)) (gN 10) (rt true) ce__law_names_3
def fb__law_names_4 : SM := (sSeq (sAsg (eP addD (cA (eC (.int 1)) (cA (eCallF F__law_pick (cA (eV 0) (cA (eP ixD (cA (eLst (cA (eC (.int 2)) (cA (eC (.int 6)) cN))) (cA (eCallF F__law_pick (cA (eV 0) (cA (eC (.int 2)) cN))) cN))) cN))) cN))) (gN 7))
    (sSeq (sAsg (eM "str" joinD (eC (.str "")) (cA cp__law_names_3 cN)) (gN 8))
    (sSeq (sIf (mB (eP eqD (cA (eCallF F__law_pick (cA (eV 0) (cA (eC (.int 6)) cN))) (cA (eC (.int 0)) cN)))) (sSeq (sAsg (eP ixD (cA (eV 5) (cA (eCallF F__law_pick (cA (eV 0) (cA (eC (.int 17)) cN))) cN))) (gN 8))
    sNil) sNil)
    (sSeq (sAsg (eP addD (cA (eLst (cA (eV 8) cN)) (cA cp__law_names_2 cN))) (gN 9))
    (sSeq (sExp (eU "list" appendD (eV 4) (cA (eP ixD (cA cp__law_names_1 (cA (eC (.int 0)) cN))) cN)))
    sNil)))))
def fl__law_names_4 : SM := sFor (mR1 (cA (eV 1) cN)) (gN 6) fb__law_names_4
def b__law_names : SM := (sSeq (sPF 3 4 (eC (.str "abcdefghijklmnopqrstuvwxyz")) (eP listD (cA (eV 2) cN)))
    (sSeq (sAsg (eM "str" splitD (eC (.str "field gate begin rain sun lend let shut wet dry even none owing fault plan lack bar")) (cA (eC (.str " ")) cN)) (gN 5))
    (sSeq fl__law_names_4
    (sSeq (sRet (eSl (eV 4) (oS (eP lenD (cA (eV 2) cN))) oN))
    sNil))))
def F__law_names : Fs := ⟨runF [true, false, false] 13 b__law_names, [true, false, false]⟩
theorem sem__law_names (ds : List D) : F__law_names.sem ds = runF [true, false, false] 13 b__law_names ds := rfl
theorem sig__law_names : F__law_names.sig = [true, false, false] := rfl
theorem fn__law_names {g : G0} (h : Hyp g) : FnI g "_law_names" 3 F__law_names :=
  fn_rule h.d__law_names sc__law_names rfl (es_cons (es_pfc (i := 3) (j := 4) rfl rfl (by decide) (by first | exact .inl rfl | exact .inr rfl) (by first | exact .inl rfl | exact .inr rfl) rfl rfl (ee_str (by decide +kernel)) (ee_callTy ca_list rfl h.z_list bt_list (ea_cons (ee_var (i := 2) rfl (by first | exact .inl rfl | exact .inr (.inl rfl) | exact .inr (.inr rfl)) (by decide) (by decide)) ea_nil (fun _ _ => rfl)) (fun _ _ => rfl) (fun _ => rfl) (by decide) (by decide)) (fun _ _ => rfl) (fun _ _ => rfl) (fun env he => by cases env; cases he; rfl) (fun _ => rfl))
    (es_cons (es_set (i := 5) rfl (by first | exact .inl rfl | exact .inr rfl) (ee_meth me_split (ee_str (by decide +kernel)) (ea_cons (ee_str (by decide +kernel)) ea_nil (fun _ _ => rfl)) (fun _ _ => rfl) (fun _ => rfl) (fun _ => rfl) rfl (fun _ => rfl)) (fun _ => rfl) (.inl rfl))
    (es_cons (es_for (ei_r1 rfl h.z_range (ea_cons (ee_var (i := 1) rfl (by first | exact .inl rfl | exact .inr (.inl rfl) | exact .inr (.inr rfl)) (by decide) (by decide)) ea_nil (fun _ _ => rfl)) (fun _ _ => rfl)) (eg_name (i := 6) rfl (by first | exact .inl rfl | exact .inr rfl) (by first | exact .inl rfl | exact .inr rfl)) (es_cons (es_set (i := 7) rfl (by first | exact .inl rfl | exact .inr rfl) (ee_bin op_addD ee_int (ee_callF (fn__law_pick h) (by decide) rfl (ea_cons (ee_var (i := 0) rfl (by first | exact .inl rfl | exact .inr (.inl rfl) | exact .inr (.inr rfl)) (by decide) (by decide)) (ea_cons (ee_ix (ee_lst (ea_cons ee_int (ea_cons ee_int ea_nil (fun _ _ => rfl)) (fun _ _ => rfl))) (ee_callF (fn__law_pick h) (by decide) rfl (ea_cons (ee_var (i := 0) rfl (by first | exact .inl rfl | exact .inr (.inl rfl) | exact .inr (.inr rfl)) (by decide) (by decide)) (ea_cons ee_int ea_nil (fun _ _ => rfl)) (fun _ _ => rfl)) (fun _ _ => rfl) (fun _ => rfl) (by decide)) (fun _ _ => rfl)) ea_nil (fun _ _ => rfl)) (fun _ _ => rfl)) (fun _ _ => rfl) (fun _ => rfl) (by decide))) (fun _ => rfl) (.inl rfl))
    (es_cons (es_set (i := 8) rfl (by first | exact .inl rfl | exact .inr rfl) (ee_meth me_join (ee_str (by decide +kernel)) (ea_cons (ee_comp (own := [("_law_turn", 10)]) (by first | decide +kernel | (dsimp only; decide +kernel) | rfl) (by decide) (by decide) (ei_r1 rfl h.z_range (ea_cons (ee_var (i := 7) rfl (by first | exact .inl rfl | exact .inr (.inl rfl) | exact .inr (.inr rfl)) (by decide) (by decide)) ea_nil (fun _ _ => rfl)) (fun _ _ => rfl)) (eg_name (i := 10) rfl (by first | exact .inl rfl | exact .inr rfl) (by first | exact .inl rfl | exact .inr rfl)) ep_nil (ee_ix (ee_var (i := 3) rfl (by first | exact .inl rfl | exact .inr (.inl rfl) | exact .inr (.inr rfl)) (by decide) (by decide)) (ee_callF (fn__law_pick h) (by decide) rfl (ea_cons (ee_var (i := 0) rfl (by first | exact .inl rfl | exact .inr (.inl rfl) | exact .inr (.inr rfl)) (by decide) (by decide)) (ea_cons ee_int ea_nil (fun _ _ => rfl)) (fun _ _ => rfl)) (fun _ _ => rfl) (fun _ => rfl) (by decide)) (fun _ _ => rfl)) (fun _ _ => rfl)) ea_nil (fun _ _ => rfl)) (fun _ _ => rfl) (fun _ => rfl) (fun _ => rfl) rfl (fun _ => rfl)) (fun _ => rfl) (.inl rfl))
    (es_cons (es_if (et_cmp op_eqD' (ee_callF (fn__law_pick h) (by decide) rfl (ea_cons (ee_var (i := 0) rfl (by first | exact .inl rfl | exact .inr (.inl rfl) | exact .inr (.inr rfl)) (by decide) (by decide)) (ea_cons ee_int ea_nil (fun _ _ => rfl)) (fun _ _ => rfl)) (fun _ _ => rfl) (fun _ => rfl) (by decide)) ee_int rfl) (es_cons (es_set (i := 8) rfl (by first | exact .inl rfl | exact .inr rfl) (ee_ix (ee_var (i := 5) rfl (by first | exact .inl rfl | exact .inr (.inl rfl) | exact .inr (.inr rfl)) (by decide) (by decide)) (ee_callF (fn__law_pick h) (by decide) rfl (ea_cons (ee_var (i := 0) rfl (by first | exact .inl rfl | exact .inr (.inl rfl) | exact .inr (.inr rfl)) (by decide) (by decide)) (ea_cons ee_int ea_nil (fun _ _ => rfl)) (fun _ _ => rfl)) (fun _ _ => rfl) (fun _ => rfl) (by decide)) (fun _ _ => rfl)) (fun _ => rfl) (.inl rfl))
    es_nil) es_nil)
    (es_cons (es_set (i := 9) rfl (by first | exact .inl rfl | exact .inr rfl) (ee_bin op_addD (ee_lst (ea_cons (ee_var (i := 8) rfl (by first | exact .inl rfl | exact .inr (.inl rfl) | exact .inr (.inr rfl)) (by decide) (by decide)) ea_nil (fun _ _ => rfl))) (ee_comp (own := [("_law_sign", 11)]) (by first | decide +kernel | (dsimp only; decide +kernel) | rfl) (by decide) (by decide) (ei_str (ee_var (i := 3) rfl (by first | exact .inl rfl | exact .inr (.inl rfl) | exact .inr (.inr rfl)) (by decide) (by decide))) (eg_name (i := 11) rfl (by first | exact .inl rfl | exact .inr rfl) (by first | exact .inl rfl | exact .inr rfl)) ep_nil (ee_bin op_addD (ee_sl (ee_var (i := 8) rfl (by first | exact .inl rfl | exact .inr (.inl rfl) | exact .inr (.inr rfl)) (by decide) (by decide)) eo_none (eo_some ee_int)) (ee_var (i := 11) rfl (by first | exact .inl rfl | exact .inr (.inl rfl) | exact .inr (.inr rfl)) (by decide) (by decide))) (fun _ _ => rfl))) (fun _ => rfl) (.inl rfl))
    (es_cons (es_exp (ee_mut mu_append (ee_var (i := 4) rfl (by first | exact .inl rfl | exact .inr (.inl rfl) | exact .inr (.inr rfl)) (by decide) (by decide)) (ea_cons (ee_ix (ee_comp (own := [("_law_one", 12)]) (by first | decide +kernel | (dsimp only; decide +kernel) | rfl) (by decide) (by decide) (ei_list (ee_var (i := 9) rfl (by first | exact .inl rfl | exact .inr (.inl rfl) | exact .inr (.inr rfl)) (by decide) (by decide))) (eg_name (i := 12) rfl (by first | exact .inl rfl | exact .inr rfl) (by first | exact .inl rfl | exact .inr rfl)) (ep_one (et_cmp op_notInD' (ee_var (i := 12) rfl (by first | exact .inl rfl | exact .inr (.inl rfl) | exact .inr (.inr rfl)) (by decide) (by decide)) (ee_var (i := 4) rfl (by first | exact .inl rfl | exact .inr (.inl rfl) | exact .inr (.inr rfl)) (by decide) (by decide)) rfl)) (ee_var (i := 12) rfl (by first | exact .inl rfl | exact .inr (.inl rfl) | exact .inr (.inr rfl)) (by decide) (by decide)) (fun _ _ => rfl)) ee_int (fun _ _ => rfl)) ea_nil (fun _ _ => rfl)) (fun _ _ => rfl) (fun _ => rfl) (fun _ => rfl) rfl (fun _ => rfl)) (fun _ => rfl))
    es_nil))))) (fun _ _ => rfl))
    (es_cons (es_ret (ee_sl (ee_var (i := 4) rfl (by first | exact .inl rfl | exact .inr (.inl rfl) | exact .inr (.inr rfl)) (by decide) (by decide)) (eo_some (ee_callB ca_len rfl h.z_len bt_len (ea_cons (ee_var (i := 2) rfl (by first | exact .inl rfl | exact .inr (.inl rfl) | exact .inr (.inr rfl)) (by decide) (by decide)) ea_nil (fun _ _ => rfl)) (fun _ _ => rfl) (fun _ => rfl) (by decide) (by decide))) eo_none))
    es_nil))))
theorem sc__law_terrace : FnScope ["_law_left_here", "_law_owners", "_law_great", "_law_many", "_law_gates", "_law_names_here", "_law_fields", "_law_sizes", "_law_k", "_law_name", "_law_rows", "_law_owner", "_law_below", "_law_rights", "_law_row"] ["_law_left_here", "_law_owners", "_law_great"] (defScope s__law_terrace) := ⟨rfl, rfl, rfl, by decide +kernel, rfl, by decide +kernel, by decide +kernel⟩
def ce__law_terrace_1 : M Vl := (eP ixD (cA (eV 5) (cA (eCallF F__law_pick (cA (eV 0) (cA (eV 3) cN))) cN)))
def cp__law_terrace_1 : M Vl := eComp [8] (mR1 (cA (eP addD (cA (eC (.int 1)) (cA (eCallF F__law_pick (cA (eV 0) (cA (eV 3) cN))) cN))) cN)) (gN 8) (rt true) ce__law_terrace_1
def ce__law_terrace_2 : M Vl := (eP ixD (cA (eV 1) (cA (eCallF F__law_pick (cA (eV 0) (cA (eP lenD (cA (eV 1) cN)) cN))) cN)))
def cp__law_terrace_2 : M Vl := eComp [8] (mR1 (cA (eIf (mB (eV 2)) (eC (.int 12)) (eP addD (cA (eC (.int 1)) (cA (eCallF F__law_pick (cA (eV 0) (cA (eC (.int 4)) cN))) cN)))) cN)) (gN 8) (rt true) ce__law_terrace_2
def fb__law_terrace_3 : SM := (sSeq (sAsg cp__law_terrace_2 (gN 13))
    (sSeq (sAsg (eP sortSetD (cA cp__law_terrace_1 cN)) (gN 14))
    (sSeq (sExp (eU "list" appendD (eV 10) (cA (eTup (cA (eV 9) (cA (eP ixD (cA (eV 7) (cA (eCallF F__law_pick (cA (eV 0) (cA (eC (.int 3)) cN))) cN))) (cA (eP tupleD (cA (eV 13) cN)) (cA (eP tupleD (cA (eV 14) cN)) cN))))) cN)))
    sNil)))
def fl__law_terrace_3 : SM := sFor (mLst (eCallF F__law_names (cA (eV 0) (cA (eV 4) (cA (eLst cN) cN))))) (gN 9) fb__law_terrace_3
def fb__law_terrace_4 : SM := (sSeq (sPF 11 12 (eP ixD (cA (eV 1) (cA (eCallF F__law_pick (cA (eV 0) (cA (eP lenD (cA (eV 1) cN)) cN))) cN))) (eP ixD (cA (eP addD (cA (eLst (cA (eC (.str "")) cN)) (cA (eSl (eV 5) oN (oS (eV 8))) cN))) (cA (eCallF F__law_pick (cA (eV 0) (cA (eP addD (cA (eV 8) (cA (eC (.int 1)) cN))) cN))) cN))))
    (sSeq (sExp (eU "list" appendD (eV 6) (cA (eTup (cA (eV 9) (cA (eV 11) (cA (eV 12) (cA (eP addD (cA (eC (.int 1)) (cA (eCallF F__law_pick (cA (eV 0) (cA (eC (.int 999)) cN))) cN))) (cA (eCallF F__law_pick (cA (eV 0) (cA (eC (.int 100)) cN))) cN)))))) cN)))
    sNil))
def fl__law_terrace_4 : SM := sFor (mEnum (eV 5)) (gT 2 (gsC (gN 8) (gsC (gN 9) gsN))) fb__law_terrace_4
def b__law_terrace : SM := (sSeq (sPF 3 4 (eP addD (cA (eC (.int 1)) (cA (eCallF F__law_pick (cA (eV 0) (cA (eC (.int 3)) cN))) cN))) (eP addD (cA (eC (.int 1)) (cA (eCallF F__law_pick (cA (eV 0) (cA (eC (.int 3)) cN))) cN))))
    (sSeq (sIf (mB (eV 2)) (sSeq (sPF 3 4 (eC (.int 8)) (eC (.int 4)))
    sNil) sNil)
    (sSeq (sPF3 5 6 7 (eCallF F__law_names (cA (eV 0) (cA (eV 3) (cA (eLst cN) cN)))) (eLst cN) (eLst (cA (eP addD (cA (eC (.int 1)) (cA (eCallF F__law_pick (cA (eV 0) (cA (eC (.int 9)) cN))) cN))) (cA (eC (.int 10)) (cA (eP addD (cA (eC (.int 1)) (cA (eCallF F__law_pick (cA (eV 0) (cA (eC (.int 30)) cN))) cN))) cN)))))
    (sSeq fl__law_terrace_4
    (sSeq (sAsg (eLst cN) (gN 10))
    (sSeq fl__law_terrace_3
    (sSeq (sRet (eTup (cA (eP tupleD (cA (eP sortedD (cA (eV 6) cN)) cN)) (cA (eP tupleD (cA (eP sortedD (cA (eV 10) cN)) cN)) cN))))
    sNil)))))))
def F__law_terrace : Fs := ⟨runF [true, false, false] 15 b__law_terrace, [true, false, false]⟩
theorem sem__law_terrace (ds : List D) : F__law_terrace.sem ds = runF [true, false, false] 15 b__law_terrace ds := rfl
theorem sig__law_terrace : F__law_terrace.sig = [true, false, false] := rfl
theorem fn__law_terrace {g : G0} (h : Hyp g) : FnI g "_law_terrace" 4 F__law_terrace :=
  fn_rule h.d__law_terrace sc__law_terrace rfl (es_cons (es_pfc (i := 3) (j := 4) rfl rfl (by decide) (by first | exact .inl rfl | exact .inr rfl) (by first | exact .inl rfl | exact .inr rfl) rfl rfl (ee_bin op_addD ee_int (ee_callF (fn__law_pick h) (by decide) rfl (ea_cons (ee_var (i := 0) rfl (by first | exact .inl rfl | exact .inr (.inl rfl) | exact .inr (.inr rfl)) (by decide) (by decide)) (ea_cons ee_int ea_nil (fun _ _ => rfl)) (fun _ _ => rfl)) (fun _ _ => rfl) (fun _ => rfl) (by decide))) (ee_bin op_addD ee_int (ee_callF (fn__law_pick h) (by decide) rfl (ea_cons (ee_var (i := 0) rfl (by first | exact .inl rfl | exact .inr (.inl rfl) | exact .inr (.inr rfl)) (by decide) (by decide)) (ea_cons ee_int ea_nil (fun _ _ => rfl)) (fun _ _ => rfl)) (fun _ _ => rfl) (fun _ => rfl) (by decide))) (fun _ _ => rfl) (fun _ _ => rfl) (fun env he => by cases env; cases he; rfl) (fun _ => rfl))
    (es_cons (es_if (et_val (ee_var (i := 2) rfl (by first | exact .inl rfl | exact .inr (.inl rfl) | exact .inr (.inr rfl)) (by decide) (by decide)) (fun _ _ => rfl)) (es_cons (es_pfc (i := 3) (j := 4) rfl rfl (by decide) (by first | exact .inl rfl | exact .inr rfl) (by first | exact .inl rfl | exact .inr rfl) rfl rfl ee_int ee_int (fun _ _ => rfl) (fun _ _ => rfl) (fun env he => by cases env; cases he; rfl) (fun _ => rfl))
    es_nil) es_nil)
    (es_cons (es_pfc3 (i := 5) (j := 6) (l := 7) rfl rfl rfl (by decide) (by decide) (by decide) (by first | exact .inl rfl | exact .inr rfl) (by first | exact .inl rfl | exact .inr rfl) (by first | exact .inl rfl | exact .inr rfl) rfl rfl rfl (ee_callF (fn__law_names h) (by decide) rfl (ea_cons (ee_var (i := 0) rfl (by first | exact .inl rfl | exact .inr (.inl rfl) | exact .inr (.inr rfl)) (by decide) (by decide)) (ea_cons (ee_var (i := 3) rfl (by first | exact .inl rfl | exact .inr (.inl rfl) | exact .inr (.inr rfl)) (by decide) (by decide)) (ea_cons (ee_lst ea_nil) ea_nil (fun _ _ => rfl)) (fun _ _ => rfl)) (fun _ _ => rfl)) (fun _ _ => rfl) (fun _ => rfl) (by decide)) (ee_lst ea_nil) (ee_lst (ea_cons (ee_bin op_addD ee_int (ee_callF (fn__law_pick h) (by decide) rfl (ea_cons (ee_var (i := 0) rfl (by first | exact .inl rfl | exact .inr (.inl rfl) | exact .inr (.inr rfl)) (by decide) (by decide)) (ea_cons ee_int ea_nil (fun _ _ => rfl)) (fun _ _ => rfl)) (fun _ _ => rfl) (fun _ => rfl) (by decide))) (ea_cons ee_int (ea_cons (ee_bin op_addD ee_int (ee_callF (fn__law_pick h) (by decide) rfl (ea_cons (ee_var (i := 0) rfl (by first | exact .inl rfl | exact .inr (.inl rfl) | exact .inr (.inr rfl)) (by decide) (by decide)) (ea_cons ee_int ea_nil (fun _ _ => rfl)) (fun _ _ => rfl)) (fun _ _ => rfl) (fun _ => rfl) (by decide))) ea_nil (fun _ _ => rfl)) (fun _ _ => rfl)) (fun _ _ => rfl))) (fun _ _ => rfl) (fun _ _ => rfl) (fun _ _ => rfl) (fun env he => by cases env; cases he; rfl) (fun _ => rfl))
    (es_cons (es_for (ei_enum rfl h.z_enumerate (ee_var (i := 5) rfl (by first | exact .inl rfl | exact .inr (.inl rfl) | exact .inr (.inr rfl)) (by decide) (by decide)) (fun _ _ => rfl)) (eg_tup (egs_cons (eg_name (i := 8) rfl (by first | exact .inl rfl | exact .inr rfl) (by first | exact .inl rfl | exact .inr rfl)) (egs_cons (eg_name (i := 9) rfl (by first | exact .inl rfl | exact .inr rfl) (by first | exact .inl rfl | exact .inr rfl)) egs_nil (fun _ => rfl)) (fun _ => rfl)) (fun _ => rfl) (fun _ => rfl)) (es_cons (es_pf (i := 11) (j := 12) rfl rfl (by decide) rfl rfl (ee_ix (ee_var (i := 1) rfl (by first | exact .inl rfl | exact .inr (.inl rfl) | exact .inr (.inr rfl)) (by decide) (by decide)) (ee_callF (fn__law_pick h) (by decide) rfl (ea_cons (ee_var (i := 0) rfl (by first | exact .inl rfl | exact .inr (.inl rfl) | exact .inr (.inr rfl)) (by decide) (by decide)) (ea_cons (ee_callB ca_len rfl h.z_len bt_len (ea_cons (ee_var (i := 1) rfl (by first | exact .inl rfl | exact .inr (.inl rfl) | exact .inr (.inr rfl)) (by decide) (by decide)) ea_nil (fun _ _ => rfl)) (fun _ _ => rfl) (fun _ => rfl) (by decide) (by decide)) ea_nil (fun _ _ => rfl)) (fun _ _ => rfl)) (fun _ _ => rfl) (fun _ => rfl) (by decide)) (fun _ _ => rfl)) (ee_ix (ee_bin op_addD (ee_lst (ea_cons (ee_str (by decide +kernel)) ea_nil (fun _ _ => rfl))) (ee_sl (ee_var (i := 5) rfl (by first | exact .inl rfl | exact .inr (.inl rfl) | exact .inr (.inr rfl)) (by decide) (by decide)) eo_none (eo_some (ee_var (i := 8) rfl (by first | exact .inl rfl | exact .inr (.inl rfl) | exact .inr (.inr rfl)) (by decide) (by decide))))) (ee_callF (fn__law_pick h) (by decide) rfl (ea_cons (ee_var (i := 0) rfl (by first | exact .inl rfl | exact .inr (.inl rfl) | exact .inr (.inr rfl)) (by decide) (by decide)) (ea_cons (ee_bin op_addD (ee_var (i := 8) rfl (by first | exact .inl rfl | exact .inr (.inl rfl) | exact .inr (.inr rfl)) (by decide) (by decide)) ee_int) ea_nil (fun _ _ => rfl)) (fun _ _ => rfl)) (fun _ _ => rfl) (fun _ => rfl) (by decide)) (fun _ _ => rfl)) (fun _ _ => rfl) (fun _ _ => rfl) (fun env he => by cases env; cases he; rfl) (fun _ => rfl))
    (es_cons (es_exp (ee_mut mu_append (ee_var (i := 6) rfl (by first | exact .inl rfl | exact .inr (.inl rfl) | exact .inr (.inr rfl)) (by decide) (by decide)) (ea_cons (ee_tup (ea_cons (ee_var (i := 9) rfl (by first | exact .inl rfl | exact .inr (.inl rfl) | exact .inr (.inr rfl)) (by decide) (by decide)) (ea_cons (ee_var (i := 11) rfl (by first | exact .inl rfl | exact .inr (.inl rfl) | exact .inr (.inr rfl)) (by decide) (by decide)) (ea_cons (ee_var (i := 12) rfl (by first | exact .inl rfl | exact .inr (.inl rfl) | exact .inr (.inr rfl)) (by decide) (by decide)) (ea_cons (ee_bin op_addD ee_int (ee_callF (fn__law_pick h) (by decide) rfl (ea_cons (ee_var (i := 0) rfl (by first | exact .inl rfl | exact .inr (.inl rfl) | exact .inr (.inr rfl)) (by decide) (by decide)) (ea_cons ee_int ea_nil (fun _ _ => rfl)) (fun _ _ => rfl)) (fun _ _ => rfl) (fun _ => rfl) (by decide))) (ea_cons (ee_callF (fn__law_pick h) (by decide) rfl (ea_cons (ee_var (i := 0) rfl (by first | exact .inl rfl | exact .inr (.inl rfl) | exact .inr (.inr rfl)) (by decide) (by decide)) (ea_cons ee_int ea_nil (fun _ _ => rfl)) (fun _ _ => rfl)) (fun _ _ => rfl) (fun _ => rfl) (by decide)) ea_nil (fun _ _ => rfl)) (fun _ _ => rfl)) (fun _ _ => rfl)) (fun _ _ => rfl)) (fun _ _ => rfl))) ea_nil (fun _ _ => rfl)) (fun _ _ => rfl) (fun _ => rfl) (fun _ => rfl) rfl (fun _ => rfl)) (fun _ => rfl))
    es_nil)) (fun _ _ => rfl))
    (es_cons (es_set (i := 10) rfl (by first | exact .inl rfl | exact .inr rfl) (ee_lst ea_nil) (fun _ => rfl) (.inl rfl))
    (es_cons (es_for (ei_list (ee_callF (fn__law_names h) (by decide) rfl (ea_cons (ee_var (i := 0) rfl (by first | exact .inl rfl | exact .inr (.inl rfl) | exact .inr (.inr rfl)) (by decide) (by decide)) (ea_cons (ee_var (i := 4) rfl (by first | exact .inl rfl | exact .inr (.inl rfl) | exact .inr (.inr rfl)) (by decide) (by decide)) (ea_cons (ee_lst ea_nil) ea_nil (fun _ _ => rfl)) (fun _ _ => rfl)) (fun _ _ => rfl)) (fun _ _ => rfl) (fun _ => rfl) (by decide))) (eg_name (i := 9) rfl (by first | exact .inl rfl | exact .inr rfl) (by first | exact .inl rfl | exact .inr rfl)) (es_cons (es_setLc (i := 13) rfl rfl (fun env he => by cases env; cases he; rfl) (own := [("_law_k", 8)]) (by first | decide +kernel | (dsimp only; decide +kernel) | rfl) (by decide) (by decide) (ei_r1 rfl h.z_range (ea_cons (ee_if (et_val (ee_var (i := 2) rfl (by first | exact .inl rfl | exact .inr (.inl rfl) | exact .inr (.inr rfl)) (by decide) (by decide)) (fun _ _ => rfl)) ee_int (ee_bin op_addD ee_int (ee_callF (fn__law_pick h) (by decide) rfl (ea_cons (ee_var (i := 0) rfl (by first | exact .inl rfl | exact .inr (.inl rfl) | exact .inr (.inr rfl)) (by decide) (by decide)) (ea_cons ee_int ea_nil (fun _ _ => rfl)) (fun _ _ => rfl)) (fun _ _ => rfl) (fun _ => rfl) (by decide)))) ea_nil (fun _ _ => rfl)) (fun _ _ => rfl)) (eg_name (i := 8) rfl (by first | exact .inl rfl | exact .inr rfl) (by first | exact .inl rfl | exact .inr rfl)) ep_nil (ee_ix (ee_var (i := 1) rfl (by first | exact .inl rfl | exact .inr (.inl rfl) | exact .inr (.inr rfl)) (by decide) (by decide)) (ee_callF (fn__law_pick h) (by decide) rfl (ea_cons (ee_var (i := 0) rfl (by first | exact .inl rfl | exact .inr (.inl rfl) | exact .inr (.inr rfl)) (by decide) (by decide)) (ea_cons (ee_callB ca_len rfl h.z_len bt_len (ea_cons (ee_var (i := 1) rfl (by first | exact .inl rfl | exact .inr (.inl rfl) | exact .inr (.inr rfl)) (by decide) (by decide)) ea_nil (fun _ _ => rfl)) (fun _ _ => rfl) (fun _ => rfl) (by decide) (by decide)) ea_nil (fun _ _ => rfl)) (fun _ _ => rfl)) (fun _ _ => rfl) (fun _ => rfl) (by decide)) (fun _ _ => rfl)) (fun _ _ => rfl))
    (es_cons (es_set (i := 14) rfl (by first | exact .inl rfl | exact .inr rfl) (ee_sortSet (ee_comp (own := [("_law_k", 8)]) (by first | decide +kernel | (dsimp only; decide +kernel) | rfl) (by decide) (by decide) (ei_r1 rfl h.z_range (ea_cons (ee_bin op_addD ee_int (ee_callF (fn__law_pick h) (by decide) rfl (ea_cons (ee_var (i := 0) rfl (by first | exact .inl rfl | exact .inr (.inl rfl) | exact .inr (.inr rfl)) (by decide) (by decide)) (ea_cons (ee_var (i := 3) rfl (by first | exact .inl rfl | exact .inr (.inl rfl) | exact .inr (.inr rfl)) (by decide) (by decide)) ea_nil (fun _ _ => rfl)) (fun _ _ => rfl)) (fun _ _ => rfl) (fun _ => rfl) (by decide))) ea_nil (fun _ _ => rfl)) (fun _ _ => rfl)) (eg_name (i := 8) rfl (by first | exact .inl rfl | exact .inr rfl) (by first | exact .inl rfl | exact .inr rfl)) ep_nil (ee_ix (ee_var (i := 5) rfl (by first | exact .inl rfl | exact .inr (.inl rfl) | exact .inr (.inr rfl)) (by decide) (by decide)) (ee_callF (fn__law_pick h) (by decide) rfl (ea_cons (ee_var (i := 0) rfl (by first | exact .inl rfl | exact .inr (.inl rfl) | exact .inr (.inr rfl)) (by decide) (by decide)) (ea_cons (ee_var (i := 3) rfl (by first | exact .inl rfl | exact .inr (.inl rfl) | exact .inr (.inr rfl)) (by decide) (by decide)) ea_nil (fun _ _ => rfl)) (fun _ _ => rfl)) (fun _ _ => rfl) (fun _ => rfl) (by decide)) (fun _ _ => rfl)) (fun _ _ => rfl)) rfl h.z_sorted rfl h.z_set (fun _ _ => rfl)) (fun _ => rfl) (.inl rfl))
    (es_cons (es_exp (ee_mut mu_append (ee_var (i := 10) rfl (by first | exact .inl rfl | exact .inr (.inl rfl) | exact .inr (.inr rfl)) (by decide) (by decide)) (ea_cons (ee_tup (ea_cons (ee_var (i := 9) rfl (by first | exact .inl rfl | exact .inr (.inl rfl) | exact .inr (.inr rfl)) (by decide) (by decide)) (ea_cons (ee_ix (ee_var (i := 7) rfl (by first | exact .inl rfl | exact .inr (.inl rfl) | exact .inr (.inr rfl)) (by decide) (by decide)) (ee_callF (fn__law_pick h) (by decide) rfl (ea_cons (ee_var (i := 0) rfl (by first | exact .inl rfl | exact .inr (.inl rfl) | exact .inr (.inr rfl)) (by decide) (by decide)) (ea_cons ee_int ea_nil (fun _ _ => rfl)) (fun _ _ => rfl)) (fun _ _ => rfl) (fun _ => rfl) (by decide)) (fun _ _ => rfl)) (ea_cons (ee_callTy ca_tuple rfl h.z_tuple bt_tuple (ea_cons (ee_var (i := 13) rfl (by first | exact .inl rfl | exact .inr (.inl rfl) | exact .inr (.inr rfl)) (by decide) (by decide)) ea_nil (fun _ _ => rfl)) (fun _ _ => rfl) (fun _ => rfl) (by decide) (by decide)) (ea_cons (ee_callTy ca_tuple rfl h.z_tuple bt_tuple (ea_cons (ee_var (i := 14) rfl (by first | exact .inl rfl | exact .inr (.inl rfl) | exact .inr (.inr rfl)) (by decide) (by decide)) ea_nil (fun _ _ => rfl)) (fun _ _ => rfl) (fun _ => rfl) (by decide) (by decide)) ea_nil (fun _ _ => rfl)) (fun _ _ => rfl)) (fun _ _ => rfl)) (fun _ _ => rfl))) ea_nil (fun _ _ => rfl)) (fun _ _ => rfl) (fun _ => rfl) (fun _ => rfl) rfl (fun _ => rfl)) (fun _ => rfl))
    es_nil))) (fun _ _ => rfl))
    (es_cons (es_ret (ee_tup (ea_cons (ee_callTy ca_tuple rfl h.z_tuple bt_tuple (ea_cons (ee_callB ca_sorted rfl h.z_sorted bt_sorted (ea_cons (ee_var (i := 6) rfl (by first | exact .inl rfl | exact .inr (.inl rfl) | exact .inr (.inr rfl)) (by decide) (by decide)) ea_nil (fun _ _ => rfl)) (fun _ _ => rfl) (fun _ => rfl) (by decide) (by decide)) ea_nil (fun _ _ => rfl)) (fun _ _ => rfl) (fun _ => rfl) (by decide) (by decide)) (ea_cons (ee_callTy ca_tuple rfl h.z_tuple bt_tuple (ea_cons (ee_callB ca_sorted rfl h.z_sorted bt_sorted (ea_cons (ee_var (i := 10) rfl (by first | exact .inl rfl | exact .inr (.inl rfl) | exact .inr (.inr rfl)) (by decide) (by decide)) ea_nil (fun _ _ => rfl)) (fun _ _ => rfl) (fun _ => rfl) (by decide) (by decide)) ea_nil (fun _ _ => rfl)) (fun _ _ => rfl) (fun _ => rfl) (by decide) (by decide)) ea_nil (fun _ _ => rfl)) (fun _ _ => rfl))))
    es_nil)))))))
theorem sc__law_holders : FnScope ["_law_terrace_here", "_law_loans_here", "_law_held", "_law_gate", "_law_most", "_law_rights", "_law_row", "_law_day", "_law_giver", "_law_taker"] ["_law_terrace_here", "_law_loans_here"] (defScope s__law_holders) := ⟨rfl, rfl, rfl, by decide +kernel, rfl, by decide +kernel, by decide +kernel⟩
def fb__law_holders_1 : SM := (sSeq (sAsg (eV 9) (gS setDk (eV 2) (eTup (cA (eV 7) (cA (eV 3) cN)))))
    sNil)
def fl__law_holders_1 : SM := sFor (mLst (eV 1)) (gT 4 (gsC (gN 7) (gsC (gN 3) (gsC (gN 8) (gsC (gN 9) gsN))))) fb__law_holders_1
def fb__law_holders_2 : SM := (sSeq (sAsg (eP ixD (cA (eV 5) (cA (eP modD (cA (eV 7) (cA (eP lenD (cA (eV 5) cN)) cN))) cN))) (gS setDk (eV 2) (eTup (cA (eV 7) (cA (eV 3) cN)))))
    sNil)
def fl__law_holders_2 : SM := sFor (mR1 (cA (eC (.int 40)) cN)) (gN 7) fb__law_holders_2
def fb__law_holders_3 : SM := (sSeq fl__law_holders_2
    sNil)
def fl__law_holders_3 : SM := sFor (mTup (eP ixD (cA (eV 0) (cA (eC (.int 1)) cN)))) (gT 4 (gsC (gN 3) (gsC (gN 4) (gsC (gN 5) (gsC (gN 6) gsN))))) fb__law_holders_3
def b__law_holders : SM := (sSeq (sAsg eDt (gN 2))
    (sSeq fl__law_holders_3
    (sSeq fl__law_holders_1
    (sSeq (sRet (eV 2))
    sNil))))
def F__law_holders : Fs := ⟨runF [false, false] 10 b__law_holders, [false, false]⟩
theorem sem__law_holders (ds : List D) : F__law_holders.sem ds = runF [false, false] 10 b__law_holders ds := rfl
theorem sig__law_holders : F__law_holders.sig = [false, false] := rfl
theorem fn__law_holders {g : G0} (h : Hyp g) : FnI g "_law_holders" 1 F__law_holders :=
  fn_rule h.d__law_holders sc__law_holders rfl (es_cons (es_set (i := 2) rfl (by first | exact .inl rfl | exact .inr rfl) ee_dt (fun _ => rfl) (.inl rfl))
    (es_cons (es_for (ei_tup (ee_ix (ee_var (i := 0) rfl (by first | exact .inl rfl | exact .inr (.inl rfl) | exact .inr (.inr rfl)) (by decide) (by decide)) ee_int (fun _ _ => rfl))) (eg_tup (egs_cons (eg_name (i := 3) rfl (by first | exact .inl rfl | exact .inr rfl) (by first | exact .inl rfl | exact .inr rfl)) (egs_cons (eg_name (i := 4) rfl (by first | exact .inl rfl | exact .inr rfl) (by first | exact .inl rfl | exact .inr rfl)) (egs_cons (eg_name (i := 5) rfl (by first | exact .inl rfl | exact .inr rfl) (by first | exact .inl rfl | exact .inr rfl)) (egs_cons (eg_name (i := 6) rfl (by first | exact .inl rfl | exact .inr rfl) (by first | exact .inl rfl | exact .inr rfl)) egs_nil (fun _ => rfl)) (fun _ => rfl)) (fun _ => rfl)) (fun _ => rfl)) (fun _ => rfl) (fun _ => rfl)) (es_cons (es_for (ei_r1 rfl h.z_range (ea_cons ee_int ea_nil (fun _ _ => rfl)) (fun _ _ => rfl)) (eg_name (i := 7) rfl (by first | exact .inl rfl | exact .inr rfl) (by first | exact .inl rfl | exact .inr rfl)) (es_cons (es_asg (ee_ix (ee_var (i := 5) rfl (by first | exact .inl rfl | exact .inr (.inl rfl) | exact .inr (.inr rfl)) (by decide) (by decide)) (ee_bin op_modD (ee_var (i := 7) rfl (by first | exact .inl rfl | exact .inr (.inl rfl) | exact .inr (.inr rfl)) (by decide) (by decide)) (ee_callB ca_len rfl h.z_len bt_len (ea_cons (ee_var (i := 5) rfl (by first | exact .inl rfl | exact .inr (.inl rfl) | exact .inr (.inr rfl)) (by decide) (by decide)) ea_nil (fun _ _ => rfl)) (fun _ _ => rfl) (fun _ => rfl) (by decide) (by decide))) (fun _ _ => rfl)) (eg_sub se_any (ee_var (i := 2) rfl (by first | exact .inl rfl | exact .inr (.inl rfl) | exact .inr (.inr rfl)) (by decide) (by decide)) (ee_tup (ea_cons (ee_var (i := 7) rfl (by first | exact .inl rfl | exact .inr (.inl rfl) | exact .inr (.inr rfl)) (by decide) (by decide)) (ea_cons (ee_var (i := 3) rfl (by first | exact .inl rfl | exact .inr (.inl rfl) | exact .inr (.inr rfl)) (by decide) (by decide)) ea_nil (fun _ _ => rfl)) (fun _ _ => rfl))) (fun _ _ => rfl)) (fun _ => rfl) (fun env he => by cases env; cases he; rfl) (fun _ => rfl))
    es_nil) (fun _ _ => rfl))
    es_nil) (fun _ _ => rfl))
    (es_cons (es_for (ei_list (ee_var (i := 1) rfl (by first | exact .inl rfl | exact .inr (.inl rfl) | exact .inr (.inr rfl)) (by decide) (by decide))) (eg_tup (egs_cons (eg_name (i := 7) rfl (by first | exact .inl rfl | exact .inr rfl) (by first | exact .inl rfl | exact .inr rfl)) (egs_cons (eg_name (i := 3) rfl (by first | exact .inl rfl | exact .inr rfl) (by first | exact .inl rfl | exact .inr rfl)) (egs_cons (eg_name (i := 8) rfl (by first | exact .inl rfl | exact .inr rfl) (by first | exact .inl rfl | exact .inr rfl)) (egs_cons (eg_name (i := 9) rfl (by first | exact .inl rfl | exact .inr rfl) (by first | exact .inl rfl | exact .inr rfl)) egs_nil (fun _ => rfl)) (fun _ => rfl)) (fun _ => rfl)) (fun _ => rfl)) (fun _ => rfl) (fun _ => rfl)) (es_cons (es_asg (ee_var (i := 9) rfl (by first | exact .inl rfl | exact .inr (.inl rfl) | exact .inr (.inr rfl)) (by decide) (by decide)) (eg_sub se_any (ee_var (i := 2) rfl (by first | exact .inl rfl | exact .inr (.inl rfl) | exact .inr (.inr rfl)) (by decide) (by decide)) (ee_tup (ea_cons (ee_var (i := 7) rfl (by first | exact .inl rfl | exact .inr (.inl rfl) | exact .inr (.inr rfl)) (by decide) (by decide)) (ea_cons (ee_var (i := 3) rfl (by first | exact .inl rfl | exact .inr (.inl rfl) | exact .inr (.inr rfl)) (by decide) (by decide)) ea_nil (fun _ _ => rfl)) (fun _ _ => rfl))) (fun _ _ => rfl)) (fun _ => rfl) (fun env he => by cases env; cases he; rfl) (fun _ => rfl))
    es_nil) (fun _ _ => rfl))
    (es_cons (es_ret (ee_var (i := 2) rfl (by first | exact .inl rfl | exact .inr (.inl rfl) | exact .inr (.inr rfl)) (by decide) (by decide)))
    es_nil))))
theorem sc__law_loans : FnScope ["_law_left_here", "_law_terrace_here", "_law_people", "_law_many", "_law_days", "_law_held", "_law_loans_here", "_law_k", "_law_gate", "_law_day", "_law_others", "_law_one"] ["_law_left_here", "_law_terrace_here", "_law_people", "_law_many", "_law_days"] (defScope s__law_loans) := ⟨rfl, rfl, rfl, by decide +kernel, rfl, by decide +kernel, by decide +kernel⟩
def ce__law_loans_1 : M Vl := (eV 11)
def cp__law_loans_1 : M Vl := eComp [11] (mLst (eV 2)) (gN 11) (mTmp (mB (eP neD (cA (eV 11) (cA (eP ixD (cA (eV 5) (cA (eTup (cA (eV 9) (cA (eV 8) cN))) cN))) cN))))) ce__law_loans_1
def fb__law_loans_2 : SM := (sSeq (sAsg (eP ixD (cA (eP ixD (cA (eP ixD (cA (eV 1) (cA (eC (.int 1)) cN))) (cA (eCallF F__law_pick (cA (eV 0) (cA (eP lenD (cA (eP ixD (cA (eV 1) (cA (eC (.int 1)) cN))) cN)) cN))) cN))) (cA (eC (.int 0)) cN))) (gN 8))
    (sSeq (sAsg (eIf (mB (eP gtD (cA (eCallF F__law_pick (cA (eV 0) (cA (eC (.int 4)) cN))) (cA (eC (.int 0)) cN)))) (eP ixD (cA (eV 4) (cA (eCallF F__law_pick (cA (eV 0) (cA (eP lenD (cA (eV 4) cN)) cN))) cN))) (eCallF F__law_pick (cA (eV 0) (cA (eC (.int 40)) cN)))) (gN 9))
    (sSeq (sAsg cp__law_loans_1 (gN 10))
    (sSeq (sExp (eU "list" appendD (eV 6) (cA (eTup (cA (eV 9) (cA (eV 8) (cA (eP ixD (cA (eV 5) (cA (eTup (cA (eV 9) (cA (eV 8) cN))) cN))) (cA (eP ixD (cA (eV 10) (cA (eCallF F__law_pick (cA (eV 0) (cA (eP lenD (cA (eV 10) cN)) cN))) cN))) cN))))) cN)))
    (sSeq (sAsg (eP ixD (cA (eP ixD (cA (eV 6) (cA (eP negD (cA (eC (.int 1)) cN)) cN))) (cA (eC (.int 3)) cN))) (gS setDk (eV 5) (eTup (cA (eV 9) (cA (eV 8) cN)))))
    sNil)))))
def fl__law_loans_2 : SM := sFor (mR1 (cA (eV 3) cN)) (gN 7) fb__law_loans_2
def b__law_loans : SM := (sSeq (sPF 5 6 (eCallF F__law_holders (cA (eV 1) (cA (eLst cN) cN))) (eLst cN))
    (sSeq fl__law_loans_2
    (sSeq (sRet (eV 6))
    sNil)))
def F__law_loans : Fs := ⟨runF [true, false, false, false, false] 12 b__law_loans, [true, false, false, false, false]⟩
theorem sem__law_loans (ds : List D) : F__law_loans.sem ds = runF [true, false, false, false, false] 12 b__law_loans ds := rfl
theorem sig__law_loans : F__law_loans.sig = [true, false, false, false, false] := rfl
theorem fn__law_loans {g : G0} (h : Hyp g) : FnI g "_law_loans" 3 F__law_loans :=
  fn_rule h.d__law_loans sc__law_loans rfl (es_cons (es_pfc (i := 5) (j := 6) rfl rfl (by decide) (by first | exact .inl rfl | exact .inr rfl) (by first | exact .inl rfl | exact .inr rfl) rfl rfl (ee_callF (fn__law_holders h) (by decide) rfl (ea_cons (ee_var (i := 1) rfl (by first | exact .inl rfl | exact .inr (.inl rfl) | exact .inr (.inr rfl)) (by decide) (by decide)) (ea_cons (ee_lst ea_nil) ea_nil (fun _ _ => rfl)) (fun _ _ => rfl)) (fun _ _ => rfl) (fun _ => rfl) (by decide)) (ee_lst ea_nil) (fun _ _ => rfl) (fun _ _ => rfl) (fun env he => by cases env; cases he; rfl) (fun _ => rfl))
    (es_cons (es_for (ei_r1 rfl h.z_range (ea_cons (ee_var (i := 3) rfl (by first | exact .inl rfl | exact .inr (.inl rfl) | exact .inr (.inr rfl)) (by decide) (by decide)) ea_nil (fun _ _ => rfl)) (fun _ _ => rfl)) (eg_name (i := 7) rfl (by first | exact .inl rfl | exact .inr rfl) (by first | exact .inl rfl | exact .inr rfl)) (es_cons (es_set (i := 8) rfl (by first | exact .inl rfl | exact .inr rfl) (ee_ix (ee_ix (ee_ix (ee_var (i := 1) rfl (by first | exact .inl rfl | exact .inr (.inl rfl) | exact .inr (.inr rfl)) (by decide) (by decide)) ee_int (fun _ _ => rfl)) (ee_callF (fn__law_pick h) (by decide) rfl (ea_cons (ee_var (i := 0) rfl (by first | exact .inl rfl | exact .inr (.inl rfl) | exact .inr (.inr rfl)) (by decide) (by decide)) (ea_cons (ee_callB ca_len rfl h.z_len bt_len (ea_cons (ee_ix (ee_var (i := 1) rfl (by first | exact .inl rfl | exact .inr (.inl rfl) | exact .inr (.inr rfl)) (by decide) (by decide)) ee_int (fun _ _ => rfl)) ea_nil (fun _ _ => rfl)) (fun _ _ => rfl) (fun _ => rfl) (by decide) (by decide)) ea_nil (fun _ _ => rfl)) (fun _ _ => rfl)) (fun _ _ => rfl) (fun _ => rfl) (by decide)) (fun _ _ => rfl)) ee_int (fun _ _ => rfl)) (fun _ => rfl) (.inl rfl))
    (es_cons (es_set (i := 9) rfl (by first | exact .inl rfl | exact .inr rfl) (ee_if (et_cmp op_gtD (ee_callF (fn__law_pick h) (by decide) rfl (ea_cons (ee_var (i := 0) rfl (by first | exact .inl rfl | exact .inr (.inl rfl) | exact .inr (.inr rfl)) (by decide) (by decide)) (ea_cons ee_int ea_nil (fun _ _ => rfl)) (fun _ _ => rfl)) (fun _ _ => rfl) (fun _ => rfl) (by decide)) ee_int rfl) (ee_ix (ee_var (i := 4) rfl (by first | exact .inl rfl | exact .inr (.inl rfl) | exact .inr (.inr rfl)) (by decide) (by decide)) (ee_callF (fn__law_pick h) (by decide) rfl (ea_cons (ee_var (i := 0) rfl (by first | exact .inl rfl | exact .inr (.inl rfl) | exact .inr (.inr rfl)) (by decide) (by decide)) (ea_cons (ee_callB ca_len rfl h.z_len bt_len (ea_cons (ee_var (i := 4) rfl (by first | exact .inl rfl | exact .inr (.inl rfl) | exact .inr (.inr rfl)) (by decide) (by decide)) ea_nil (fun _ _ => rfl)) (fun _ _ => rfl) (fun _ => rfl) (by decide) (by decide)) ea_nil (fun _ _ => rfl)) (fun _ _ => rfl)) (fun _ _ => rfl) (fun _ => rfl) (by decide)) (fun _ _ => rfl)) (ee_callF (fn__law_pick h) (by decide) rfl (ea_cons (ee_var (i := 0) rfl (by first | exact .inl rfl | exact .inr (.inl rfl) | exact .inr (.inr rfl)) (by decide) (by decide)) (ea_cons ee_int ea_nil (fun _ _ => rfl)) (fun _ _ => rfl)) (fun _ _ => rfl) (fun _ => rfl) (by decide))) (fun _ => rfl) (.inl rfl))
    (es_cons (es_setLc (i := 10) rfl rfl (fun env he => by cases env; cases he; rfl) (own := [("_law_one", 11)]) (by first | decide +kernel | (dsimp only; decide +kernel) | rfl) (by decide) (by decide) (ei_list (ee_var (i := 2) rfl (by first | exact .inl rfl | exact .inr (.inl rfl) | exact .inr (.inr rfl)) (by decide) (by decide))) (eg_name (i := 11) rfl (by first | exact .inl rfl | exact .inr rfl) (by first | exact .inl rfl | exact .inr rfl)) (ep_one (et_tmp (et_cmp op_neD' (ee_var (i := 11) rfl (by first | exact .inl rfl | exact .inr (.inl rfl) | exact .inr (.inr rfl)) (by decide) (by decide)) (ee_ix (ee_var (i := 5) rfl (by first | exact .inl rfl | exact .inr (.inl rfl) | exact .inr (.inr rfl)) (by decide) (by decide)) (ee_tup (ea_cons (ee_var (i := 9) rfl (by first | exact .inl rfl | exact .inr (.inl rfl) | exact .inr (.inr rfl)) (by decide) (by decide)) (ea_cons (ee_var (i := 8) rfl (by first | exact .inl rfl | exact .inr (.inl rfl) | exact .inr (.inr rfl)) (by decide) (by decide)) ea_nil (fun _ _ => rfl)) (fun _ _ => rfl))) (fun _ _ => rfl)) rfl))) (ee_var (i := 11) rfl (by first | exact .inl rfl | exact .inr (.inl rfl) | exact .inr (.inr rfl)) (by decide) (by decide)) (fun _ _ => rfl))
    (es_cons (es_exp (ee_mut mu_append (ee_var (i := 6) rfl (by first | exact .inl rfl | exact .inr (.inl rfl) | exact .inr (.inr rfl)) (by decide) (by decide)) (ea_cons (ee_tup (ea_cons (ee_var (i := 9) rfl (by first | exact .inl rfl | exact .inr (.inl rfl) | exact .inr (.inr rfl)) (by decide) (by decide)) (ea_cons (ee_var (i := 8) rfl (by first | exact .inl rfl | exact .inr (.inl rfl) | exact .inr (.inr rfl)) (by decide) (by decide)) (ea_cons (ee_ix (ee_var (i := 5) rfl (by first | exact .inl rfl | exact .inr (.inl rfl) | exact .inr (.inr rfl)) (by decide) (by decide)) (ee_tup (ea_cons (ee_var (i := 9) rfl (by first | exact .inl rfl | exact .inr (.inl rfl) | exact .inr (.inr rfl)) (by decide) (by decide)) (ea_cons (ee_var (i := 8) rfl (by first | exact .inl rfl | exact .inr (.inl rfl) | exact .inr (.inr rfl)) (by decide) (by decide)) ea_nil (fun _ _ => rfl)) (fun _ _ => rfl))) (fun _ _ => rfl)) (ea_cons (ee_ix (ee_var (i := 10) rfl (by first | exact .inl rfl | exact .inr (.inl rfl) | exact .inr (.inr rfl)) (by decide) (by decide)) (ee_callF (fn__law_pick h) (by decide) rfl (ea_cons (ee_var (i := 0) rfl (by first | exact .inl rfl | exact .inr (.inl rfl) | exact .inr (.inr rfl)) (by decide) (by decide)) (ea_cons (ee_callB ca_len rfl h.z_len bt_len (ea_cons (ee_var (i := 10) rfl (by first | exact .inl rfl | exact .inr (.inl rfl) | exact .inr (.inr rfl)) (by decide) (by decide)) ea_nil (fun _ _ => rfl)) (fun _ _ => rfl) (fun _ => rfl) (by decide) (by decide)) ea_nil (fun _ _ => rfl)) (fun _ _ => rfl)) (fun _ _ => rfl) (fun _ => rfl) (by decide)) (fun _ _ => rfl)) ea_nil (fun _ _ => rfl)) (fun _ _ => rfl)) (fun _ _ => rfl)) (fun _ _ => rfl))) ea_nil (fun _ _ => rfl)) (fun _ _ => rfl) (fun _ => rfl) (fun _ => rfl) rfl (fun _ => rfl)) (fun _ => rfl))
    (es_cons (es_asg (ee_ix (ee_ix (ee_var (i := 6) rfl (by first | exact .inl rfl | exact .inr (.inl rfl) | exact .inr (.inr rfl)) (by decide) (by decide)) (ee_un un_negD ee_int) (fun _ _ => rfl)) ee_int (fun _ _ => rfl)) (eg_sub se_any (ee_var (i := 5) rfl (by first | exact .inl rfl | exact .inr (.inl rfl) | exact .inr (.inr rfl)) (by decide) (by decide)) (ee_tup (ea_cons (ee_var (i := 9) rfl (by first | exact .inl rfl | exact .inr (.inl rfl) | exact .inr (.inr rfl)) (by decide) (by decide)) (ea_cons (ee_var (i := 8) rfl (by first | exact .inl rfl | exact .inr (.inl rfl) | exact .inr (.inr rfl)) (by decide) (by decide)) ea_nil (fun _ _ => rfl)) (fun _ _ => rfl))) (fun _ _ => rfl)) (fun _ => rfl) (fun env he => by cases env; cases he; rfl) (fun _ => rfl))
    es_nil))))) (fun _ _ => rfl))
    (es_cons (es_ret (ee_var (i := 6) rfl (by first | exact .inl rfl | exact .inr (.inl rfl) | exact .inr (.inr rfl)) (by decide) (by decide)))
    es_nil)))
theorem sc__law_case : FnScope ["_law_left_here", "_law_great", "_law_people", "_law_terrace_here", "_law_days", "_law_many", "_law_turn"] ["_law_left_here", "_law_great"] (defScope s__law_case) := ⟨rfl, rfl, rfl, by decide +kernel, rfl, by decide +kernel, by decide +kernel⟩
def ce__law_case_1 : M Vl := (eCallF F__law_pick (cA (eV 0) (cA (eC (.int 40)) cN)))
def cp__law_case_1 : M Vl := eComp [6] (mR1 (cA (eP addD (cA (eC (.int 1)) (cA (eCallF F__law_pick (cA (eV 0) (cA (eC (.int 6)) cN))) cN))) cN)) (gN 6) (rt true) ce__law_case_1
def b__law_case : SM := (sSeq (sAsg (eCallF F__law_names (cA (eV 0) (cA (eP addD (cA (eC (.int 3)) (cA (eCallF F__law_pick (cA (eV 0) (cA (eC (.int 4)) cN))) cN))) (cA (eLst cN) cN)))) (gN 2))
    (sSeq (sAsg (eCallF F__law_terrace (cA (eV 0) (cA (eSl (eV 2) oN (oS (eP addD (cA (eC (.int 2)) (cA (eCallF F__law_pick (cA (eV 0) (cA (eC (.int 2)) cN))) cN))))) (cA (eV 1) cN)))) (gN 3))
    (sSeq (sAsg cp__law_case_1 (gN 4))
    (sSeq (sAsg (eIf (mB (eV 1)) (eC (.int 24)) (eCallF F__law_pick (cA (eV 0) (cA (eP ixD (cA (eLst (cA (eC (.int 4)) (cA (eC (.int 10)) (cA (eC (.int 25)) cN)))) (cA (eCallF F__law_pick (cA (eV 0) (cA (eC (.int 3)) cN))) cN))) cN)))) (gN 5))
    (sSeq (sRet (eTup (cA (eV 3) (cA (eV 2) (cA (eCallF F__law_loans (cA (eV 0) (cA (eV 3) (cA (eV 2) (cA (eV 5) (cA (eV 4) cN)))))) cN)))))
    sNil)))))
def F__law_case : Fs := ⟨runF [true, false] 7 b__law_case, [true, false]⟩
theorem sem__law_case (ds : List D) : F__law_case.sem ds = runF [true, false] 7 b__law_case ds := rfl
theorem sig__law_case : F__law_case.sig = [true, false] := rfl
theorem fn__law_case {g : G0} (h : Hyp g) : FnI g "_law_case" 5 F__law_case :=
  fn_rule h.d__law_case sc__law_case rfl (es_cons (es_set (i := 2) rfl (by first | exact .inl rfl | exact .inr rfl) (ee_callF (fn__law_names h) (by decide) rfl (ea_cons (ee_var (i := 0) rfl (by first | exact .inl rfl | exact .inr (.inl rfl) | exact .inr (.inr rfl)) (by decide) (by decide)) (ea_cons (ee_bin op_addD ee_int (ee_callF (fn__law_pick h) (by decide) rfl (ea_cons (ee_var (i := 0) rfl (by first | exact .inl rfl | exact .inr (.inl rfl) | exact .inr (.inr rfl)) (by decide) (by decide)) (ea_cons ee_int ea_nil (fun _ _ => rfl)) (fun _ _ => rfl)) (fun _ _ => rfl) (fun _ => rfl) (by decide))) (ea_cons (ee_lst ea_nil) ea_nil (fun _ _ => rfl)) (fun _ _ => rfl)) (fun _ _ => rfl)) (fun _ _ => rfl) (fun _ => rfl) (by decide)) (fun _ => rfl) (.inl rfl))
    (es_cons (es_set (i := 3) rfl (by first | exact .inl rfl | exact .inr rfl) (ee_callF (fn__law_terrace h) (by decide) rfl (ea_cons (ee_var (i := 0) rfl (by first | exact .inl rfl | exact .inr (.inl rfl) | exact .inr (.inr rfl)) (by decide) (by decide)) (ea_cons (ee_sl (ee_var (i := 2) rfl (by first | exact .inl rfl | exact .inr (.inl rfl) | exact .inr (.inr rfl)) (by decide) (by decide)) eo_none (eo_some (ee_bin op_addD ee_int (ee_callF (fn__law_pick h) (by decide) rfl (ea_cons (ee_var (i := 0) rfl (by first | exact .inl rfl | exact .inr (.inl rfl) | exact .inr (.inr rfl)) (by decide) (by decide)) (ea_cons ee_int ea_nil (fun _ _ => rfl)) (fun _ _ => rfl)) (fun _ _ => rfl) (fun _ => rfl) (by decide))))) (ea_cons (ee_var (i := 1) rfl (by first | exact .inl rfl | exact .inr (.inl rfl) | exact .inr (.inr rfl)) (by decide) (by decide)) ea_nil (fun _ _ => rfl)) (fun _ _ => rfl)) (fun _ _ => rfl)) (fun _ _ => rfl) (fun _ => rfl) (by decide)) (fun _ => rfl) (.inl rfl))
    (es_cons (es_setLc (i := 4) rfl rfl (fun env he => by cases env; cases he; rfl) (own := [("_law_turn", 6)]) (by first | decide +kernel | (dsimp only; decide +kernel) | rfl) (by decide) (by decide) (ei_r1 rfl h.z_range (ea_cons (ee_bin op_addD ee_int (ee_callF (fn__law_pick h) (by decide) rfl (ea_cons (ee_var (i := 0) rfl (by first | exact .inl rfl | exact .inr (.inl rfl) | exact .inr (.inr rfl)) (by decide) (by decide)) (ea_cons ee_int ea_nil (fun _ _ => rfl)) (fun _ _ => rfl)) (fun _ _ => rfl) (fun _ => rfl) (by decide))) ea_nil (fun _ _ => rfl)) (fun _ _ => rfl)) (eg_name (i := 6) rfl (by first | exact .inl rfl | exact .inr rfl) (by first | exact .inl rfl | exact .inr rfl)) ep_nil (ee_callF (fn__law_pick h) (by decide) rfl (ea_cons (ee_var (i := 0) rfl (by first | exact .inl rfl | exact .inr (.inl rfl) | exact .inr (.inr rfl)) (by decide) (by decide)) (ea_cons ee_int ea_nil (fun _ _ => rfl)) (fun _ _ => rfl)) (fun _ _ => rfl) (fun _ => rfl) (by decide)) (fun _ _ => rfl))
    (es_cons (es_set (i := 5) rfl (by first | exact .inl rfl | exact .inr rfl) (ee_if (et_val (ee_var (i := 1) rfl (by first | exact .inl rfl | exact .inr (.inl rfl) | exact .inr (.inr rfl)) (by decide) (by decide)) (fun _ _ => rfl)) ee_int (ee_callF (fn__law_pick h) (by decide) rfl (ea_cons (ee_var (i := 0) rfl (by first | exact .inl rfl | exact .inr (.inl rfl) | exact .inr (.inr rfl)) (by decide) (by decide)) (ea_cons (ee_ix (ee_lst (ea_cons ee_int (ea_cons ee_int (ea_cons ee_int ea_nil (fun _ _ => rfl)) (fun _ _ => rfl)) (fun _ _ => rfl))) (ee_callF (fn__law_pick h) (by decide) rfl (ea_cons (ee_var (i := 0) rfl (by first | exact .inl rfl | exact .inr (.inl rfl) | exact .inr (.inr rfl)) (by decide) (by decide)) (ea_cons ee_int ea_nil (fun _ _ => rfl)) (fun _ _ => rfl)) (fun _ _ => rfl) (fun _ => rfl) (by decide)) (fun _ _ => rfl)) ea_nil (fun _ _ => rfl)) (fun _ _ => rfl)) (fun _ _ => rfl) (fun _ => rfl) (by decide))) (fun _ => rfl) (.inl rfl))
    (es_cons (es_ret (ee_tup (ea_cons (ee_var (i := 3) rfl (by first | exact .inl rfl | exact .inr (.inl rfl) | exact .inr (.inr rfl)) (by decide) (by decide)) (ea_cons (ee_var (i := 2) rfl (by first | exact .inl rfl | exact .inr (.inl rfl) | exact .inr (.inr rfl)) (by decide) (by decide)) (ea_cons (ee_callF (fn__law_loans h) (by decide) rfl (ea_cons (ee_var (i := 0) rfl (by first | exact .inl rfl | exact .inr (.inl rfl) | exact .inr (.inr rfl)) (by decide) (by decide)) (ea_cons (ee_var (i := 3) rfl (by first | exact .inl rfl | exact .inr (.inl rfl) | exact .inr (.inr rfl)) (by decide) (by decide)) (ea_cons (ee_var (i := 2) rfl (by first | exact .inl rfl | exact .inr (.inl rfl) | exact .inr (.inr rfl)) (by decide) (by decide)) (ea_cons (ee_var (i := 5) rfl (by first | exact .inl rfl | exact .inr (.inl rfl) | exact .inr (.inr rfl)) (by decide) (by decide)) (ea_cons (ee_var (i := 4) rfl (by first | exact .inl rfl | exact .inr (.inl rfl) | exact .inr (.inr rfl)) (by decide) (by decide)) ea_nil (fun _ _ => rfl)) (fun _ _ => rfl)) (fun _ _ => rfl)) (fun _ _ => rfl)) (fun _ _ => rfl)) (fun _ _ => rfl) (fun _ => rfl) (by decide)) ea_nil (fun _ _ => rfl)) (fun _ _ => rfl)) (fun _ _ => rfl))))
    es_nil)))))
theorem sc__law_left : FnScope ["_law_script", "_law_k", "_law_cell", "_law_great"] ["_law_script", "_law_k"] (defScope s__law_left) := ⟨rfl, rfl, rfl, by decide +kernel, rfl, by decide +kernel, by decide +kernel⟩
def b__law_left : SM := (sSeq (sAsg (eIf (mB (eP gtD (cA (eP lenD (cA (eV 0) cN)) (cA (eC (.int 0)) cN)))) (eP ixD (cA (eV 0) (cA (eP modD (cA (eV 1) (cA (eP lenD (cA (eV 0) cN)) cN))) cN))) (eC (.int 0))) (gN 2))
    (sSeq (sAsg (eP mulD (cA (eP absD (cA (eV 2) cN)) (cA (eP intD (cA (eAnd (eP geD (cA (eP absD (cA (eV 2) cN)) (cA (eP powD (cA (eC (.int 10)) (cA (eC (.int 18)) cN))) cN))) (eP ltD (cA (eV 1) (cA (eP lenD (cA (eV 0) cN)) cN)))) cN)) cN))) (gN 3))
    (sSeq (sRet (eLst (cA (eV 3) (cA (eP addD (cA (eP modD (cA (eV 2) (cA (eP powD (cA (eC (.int 10)) (cA (eC (.int 30)) cN))) cN))) (cA (eP mulD (cA (eC (.int 1000003)) (cA (eV 1) cN))) cN))) (cA (eC (.int 0)) cN)))))
    sNil)))
def F__law_left : Fs := ⟨runF [false, false] 4 b__law_left, [false, false]⟩
theorem sem__law_left (ds : List D) : F__law_left.sem ds = runF [false, false] 4 b__law_left ds := rfl
theorem sig__law_left : F__law_left.sig = [false, false] := rfl
theorem fn__law_left {g : G0} (h : Hyp g) : FnI g "_law_left" 1 F__law_left :=
  fn_rule h.d__law_left sc__law_left rfl (es_cons (es_set (i := 2) rfl (by first | exact .inl rfl | exact .inr rfl) (ee_if (et_cmp op_gtD (ee_callB ca_len rfl h.z_len bt_len (ea_cons (ee_var (i := 0) rfl (by first | exact .inl rfl | exact .inr (.inl rfl) | exact .inr (.inr rfl)) (by decide) (by decide)) ea_nil (fun _ _ => rfl)) (fun _ _ => rfl) (fun _ => rfl) (by decide) (by decide)) ee_int rfl) (ee_ix (ee_var (i := 0) rfl (by first | exact .inl rfl | exact .inr (.inl rfl) | exact .inr (.inr rfl)) (by decide) (by decide)) (ee_bin op_modD (ee_var (i := 1) rfl (by first | exact .inl rfl | exact .inr (.inl rfl) | exact .inr (.inr rfl)) (by decide) (by decide)) (ee_callB ca_len rfl h.z_len bt_len (ea_cons (ee_var (i := 0) rfl (by first | exact .inl rfl | exact .inr (.inl rfl) | exact .inr (.inr rfl)) (by decide) (by decide)) ea_nil (fun _ _ => rfl)) (fun _ _ => rfl) (fun _ => rfl) (by decide) (by decide))) (fun _ _ => rfl)) ee_int) (fun _ => rfl) (.inl rfl))
    (es_cons (es_set (i := 3) rfl (by first | exact .inl rfl | exact .inr rfl) (ee_bin op_mulD (ee_callB ca_abs rfl h.z_abs bt_abs (ea_cons (ee_var (i := 2) rfl (by first | exact .inl rfl | exact .inr (.inl rfl) | exact .inr (.inr rfl)) (by decide) (by decide)) ea_nil (fun _ _ => rfl)) (fun _ _ => rfl) (fun _ => rfl) (by decide) (by decide)) (ee_callTy ca_int rfl h.z_int bt_int (ea_cons (ee_and (ee_cmp op_geD (ee_callB ca_abs rfl h.z_abs bt_abs (ea_cons (ee_var (i := 2) rfl (by first | exact .inl rfl | exact .inr (.inl rfl) | exact .inr (.inr rfl)) (by decide) (by decide)) ea_nil (fun _ _ => rfl)) (fun _ _ => rfl) (fun _ => rfl) (by decide) (by decide)) (ee_bin op_powD ee_int ee_int) rfl) (ee_one (ee_cmp op_ltD (ee_var (i := 1) rfl (by first | exact .inl rfl | exact .inr (.inl rfl) | exact .inr (.inr rfl)) (by decide) (by decide)) (ee_callB ca_len rfl h.z_len bt_len (ea_cons (ee_var (i := 0) rfl (by first | exact .inl rfl | exact .inr (.inl rfl) | exact .inr (.inr rfl)) (by decide) (by decide)) ea_nil (fun _ _ => rfl)) (fun _ _ => rfl) (fun _ => rfl) (by decide) (by decide)) rfl))) ea_nil (fun _ _ => rfl)) (fun _ _ => rfl) (fun _ => rfl) (by decide) (by decide))) (fun _ => rfl) (.inl rfl))
    (es_cons (es_ret (ee_lst (ea_cons (ee_var (i := 3) rfl (by first | exact .inl rfl | exact .inr (.inl rfl) | exact .inr (.inr rfl)) (by decide) (by decide)) (ea_cons (ee_bin op_addD (ee_bin op_modD (ee_var (i := 2) rfl (by first | exact .inl rfl | exact .inr (.inl rfl) | exact .inr (.inr rfl)) (by decide) (by decide)) (ee_bin op_powD ee_int ee_int)) (ee_bin op_mulD ee_int (ee_var (i := 1) rfl (by first | exact .inl rfl | exact .inr (.inl rfl) | exact .inr (.inr rfl)) (by decide) (by decide)))) (ea_cons ee_int ea_nil (fun _ _ => rfl)) (fun _ _ => rfl)) (fun _ _ => rfl))))
    es_nil)))
theorem sc_gate_row : FnScope ["terrace", "gate", "row"] ["terrace", "gate"] (defScope s_gate_row) := ⟨rfl, rfl, rfl, by decide +kernel, rfl, by decide +kernel, by decide +kernel⟩
def ce_gate_row_1 : M Vl := (eV 2)
def cp_gate_row_1 : M Vl := eComp [2] (mTup (eP ixD (cA (eV 0) (cA (eC (.int 1)) cN)))) (gN 2) (mB (eP eqD (cA (eP ixD (cA (eV 2) (cA (eC (.int 0)) cN))) (cA (eV 1) cN)))) ce_gate_row_1
def b_gate_row : SM := (sSeq (sRet (eP ixD (cA cp_gate_row_1 (cA (eC (.int 0)) cN))))
    sNil)
def F_gate_row : Fs := ⟨runF [false, false] 3 b_gate_row, [false, false]⟩
theorem sem_gate_row (ds : List D) : F_gate_row.sem ds = runF [false, false] 3 b_gate_row ds := rfl
theorem sig_gate_row : F_gate_row.sig = [false, false] := rfl
theorem fn_gate_row {g : G0} (h : Hyp g) : FnI g "gate_row" 1 F_gate_row :=
  fn_rule h.d_gate_row sc_gate_row rfl (es_cons (es_ret (ee_ix (ee_comp (own := [("row", 2)]) (by first | decide +kernel | (dsimp only; decide +kernel) | rfl) (by decide) (by decide) (ei_tup (ee_ix (ee_var (i := 0) rfl (by first | exact .inl rfl | exact .inr (.inl rfl) | exact .inr (.inr rfl)) (by decide) (by decide)) ee_int (fun _ _ => rfl))) (eg_name (i := 2) rfl (by first | exact .inl rfl | exact .inr rfl) (by first | exact .inl rfl | exact .inr rfl)) (ep_one (et_cmp op_eqD' (ee_ix (ee_var (i := 2) rfl (by first | exact .inl rfl | exact .inr (.inl rfl) | exact .inr (.inr rfl)) (by decide) (by decide)) ee_int (fun _ _ => rfl)) (ee_var (i := 1) rfl (by first | exact .inl rfl | exact .inr (.inl rfl) | exact .inr (.inr rfl)) (by decide) (by decide)) rfl)) (ee_var (i := 2) rfl (by first | exact .inl rfl | exact .inr (.inl rfl) | exact .inr (.inr rfl)) (by decide) (by decide)) (fun _ _ => rfl)) ee_int (fun _ _ => rfl)))
    es_nil)
theorem sc_right_of : FnScope ["terrace", "gate", "day", "rights"] ["terrace", "gate", "day"] (defScope s_right_of) := ⟨rfl, rfl, rfl, by decide +kernel, rfl, by decide +kernel, by decide +kernel⟩
def b_right_of : SM := (sSeq (sAsg (eP ixD (cA (eCallF F_gate_row (cA (eV 0) (cA (eV 1) cN))) (cA (eC (.int 2)) cN))) (gN 3))
    (sSeq (sRet (eP ixD (cA (eV 3) (cA (eP modD (cA (eV 2) (cA (eP lenD (cA (eV 3) cN)) cN))) cN))))
    sNil))
def F_right_of : Fs := ⟨runF [false, false, false] 4 b_right_of, [false, false, false]⟩
theorem sem_right_of (ds : List D) : F_right_of.sem ds = runF [false, false, false] 4 b_right_of ds := rfl
theorem sig_right_of : F_right_of.sig = [false, false, false] := rfl
theorem fn_right_of {g : G0} (h : Hyp g) : FnI g "right_of" 2 F_right_of :=
  fn_rule h.d_right_of sc_right_of rfl (es_cons (es_set (i := 3) rfl (by first | exact .inl rfl | exact .inr rfl) (ee_ix (ee_callF (fn_gate_row h) (by decide) rfl (ea_cons (ee_var (i := 0) rfl (by first | exact .inl rfl | exact .inr (.inl rfl) | exact .inr (.inr rfl)) (by decide) (by decide)) (ea_cons (ee_var (i := 1) rfl (by first | exact .inl rfl | exact .inr (.inl rfl) | exact .inr (.inr rfl)) (by decide) (by decide)) ea_nil (fun _ _ => rfl)) (fun _ _ => rfl)) (fun _ _ => rfl) (fun _ => rfl) (by decide)) ee_int (fun _ _ => rfl)) (fun _ => rfl) (.inl rfl))
    (es_cons (es_ret (ee_ix (ee_var (i := 3) rfl (by first | exact .inl rfl | exact .inr (.inl rfl) | exact .inr (.inr rfl)) (by decide) (by decide)) (ee_bin op_modD (ee_var (i := 2) rfl (by first | exact .inl rfl | exact .inr (.inl rfl) | exact .inr (.inr rfl)) (by decide) (by decide)) (ee_callB ca_len rfl h.z_len bt_len (ea_cons (ee_var (i := 3) rfl (by first | exact .inl rfl | exact .inr (.inl rfl) | exact .inr (.inr rfl)) (by decide) (by decide)) ea_nil (fun _ _ => rfl)) (fun _ _ => rfl) (fun _ => rfl) (by decide) (by decide))) (fun _ _ => rfl)))
    es_nil))
theorem sc_holder_of : FnScope ["terrace", "loans", "gate", "day", "holder", "when", "where", "giver", "taker"] ["terrace", "loans", "gate", "day"] (defScope s_holder_of) := ⟨rfl, rfl, rfl, by decide +kernel, rfl, by decide +kernel, by decide +kernel⟩
def fb_holder_of_1 : SM := (sSeq (sIf (mAnd (mB (eP eqD (cA (eV 5) (cA (eV 3) cN)))) (mB (eP eqD (cA (eV 6) (cA (eV 2) cN))))) (sSeq (sAsg (eV 8) (gN 4))
    sNil) sNil)
    sNil)
def fl_holder_of_1 : SM := sFor (mLst (eV 1)) (gT 4 (gsC (gN 5) (gsC (gN 6) (gsC (gN 7) (gsC (gN 8) gsN))))) fb_holder_of_1
def b_holder_of : SM := (sSeq (sAsg (eCallF F_right_of (cA (eV 0) (cA (eV 2) (cA (eV 3) cN)))) (gN 4))
    (sSeq fl_holder_of_1
    (sSeq (sRet (eV 4))
    sNil)))
def F_holder_of : Fs := ⟨runF [false, false, false, false] 9 b_holder_of, [false, false, false, false]⟩
theorem sem_holder_of (ds : List D) : F_holder_of.sem ds = runF [false, false, false, false] 9 b_holder_of ds := rfl
theorem sig_holder_of : F_holder_of.sig = [false, false, false, false] := rfl
theorem fn_holder_of {g : G0} (h : Hyp g) : FnI g "holder_of" 3 F_holder_of :=
  fn_rule h.d_holder_of sc_holder_of rfl (es_cons (es_set (i := 4) rfl (by first | exact .inl rfl | exact .inr rfl) (ee_callF (fn_right_of h) (by decide) rfl (ea_cons (ee_var (i := 0) rfl (by first | exact .inl rfl | exact .inr (.inl rfl) | exact .inr (.inr rfl)) (by decide) (by decide)) (ea_cons (ee_var (i := 2) rfl (by first | exact .inl rfl | exact .inr (.inl rfl) | exact .inr (.inr rfl)) (by decide) (by decide)) (ea_cons (ee_var (i := 3) rfl (by first | exact .inl rfl | exact .inr (.inl rfl) | exact .inr (.inr rfl)) (by decide) (by decide)) ea_nil (fun _ _ => rfl)) (fun _ _ => rfl)) (fun _ _ => rfl)) (fun _ _ => rfl) (fun _ => rfl) (by decide)) (fun _ => rfl) (.inl rfl))
    (es_cons (es_for (ei_list (ee_var (i := 1) rfl (by first | exact .inl rfl | exact .inr (.inl rfl) | exact .inr (.inr rfl)) (by decide) (by decide))) (eg_tup (egs_cons (eg_name (i := 5) rfl (by first | exact .inl rfl | exact .inr rfl) (by first | exact .inl rfl | exact .inr rfl)) (egs_cons (eg_name (i := 6) rfl (by first | exact .inl rfl | exact .inr rfl) (by first | exact .inl rfl | exact .inr rfl)) (egs_cons (eg_name (i := 7) rfl (by first | exact .inl rfl | exact .inr rfl) (by first | exact .inl rfl | exact .inr rfl)) (egs_cons (eg_name (i := 8) rfl (by first | exact .inl rfl | exact .inr rfl) (by first | exact .inl rfl | exact .inr rfl)) egs_nil (fun _ => rfl)) (fun _ => rfl)) (fun _ => rfl)) (fun _ => rfl)) (fun _ => rfl) (fun _ => rfl)) (es_cons (es_if (et_w (ew_and (et_cmp op_eqD' (ee_var (i := 5) rfl (by first | exact .inl rfl | exact .inr (.inl rfl) | exact .inr (.inr rfl)) (by decide) (by decide)) (ee_var (i := 3) rfl (by first | exact .inl rfl | exact .inr (.inl rfl) | exact .inr (.inr rfl)) (by decide) (by decide)) rfl) (ew_and1 (et_cmp op_eqD' (ee_var (i := 6) rfl (by first | exact .inl rfl | exact .inr (.inl rfl) | exact .inr (.inr rfl)) (by decide) (by decide)) (ee_var (i := 2) rfl (by first | exact .inl rfl | exact .inr (.inl rfl) | exact .inr (.inr rfl)) (by decide) (by decide)) rfl)))) (es_cons (es_set (i := 4) rfl (by first | exact .inl rfl | exact .inr rfl) (ee_var (i := 8) rfl (by first | exact .inl rfl | exact .inr (.inl rfl) | exact .inr (.inr rfl)) (by decide) (by decide)) (fun _ => rfl) (.inl rfl))
    es_nil) es_nil)
    es_nil) (fun _ _ => rfl))
    (es_cons (es_ret (ee_var (i := 4) rfl (by first | exact .inl rfl | exact .inr (.inl rfl) | exact .inr (.inr rfl)) (by decide) (by decide)))
    es_nil)))
theorem sc_look_loans : FnScope ["terrace", "loans", "place", "loan"] ["terrace", "loans"] (defScope s_look_loans) := ⟨rfl, rfl, rfl, by decide +kernel, rfl, by decide +kernel, by decide +kernel⟩
def fb_look_loans_1 : SM := (sSeq (sIf (mB (eP neD (cA (eCallF F_holder_of (cA (eV 0) (cA (eSl (eV 1) oN (oS (eV 2))) (cA (eP ixD (cA (eV 3) (cA (eC (.int 1)) cN))) (cA (eP ixD (cA (eV 3) (cA (eC (.int 0)) cN))) cN))))) (cA (eP ixD (cA (eV 3) (cA (eC (.int 2)) cN))) cN)))) (sSeq (sRaise1 "NotHeld" "place" (cA (eV 2) cN))
    sNil) sNil)
    sNil)
def fl_look_loans_1 : SM := sFor (mEnum (eV 1)) (gT 2 (gsC (gN 2) (gsC (gN 3) gsN))) fb_look_loans_1
def b_look_loans : SM := (sSeq fl_look_loans_1
    (sSeq (sRet (eC (.bl true)))
    sNil))
def F_look_loans : Fs := ⟨runF [false, false] 4 b_look_loans, [false, false]⟩
theorem sem_look_loans (ds : List D) : F_look_loans.sem ds = runF [false, false] 4 b_look_loans ds := rfl
theorem sig_look_loans : F_look_loans.sig = [false, false] := rfl
theorem fnx_look_loans {g : G0} (h : Hyp g) : FnX g "look_loans" 4 F_look_loans :=
  fn_ruleX h.d_look_loans sc_look_loans rfl (exs_cons (ex_for (ei_enum rfl h.z_enumerate (ee_var (i := 1) rfl (by first | exact .inl rfl | exact .inr (.inl rfl) | exact .inr (.inr rfl)) (by decide) (by decide)) (fun _ _ => rfl)) (eg_tup (egs_cons (eg_name (i := 2) rfl (by first | exact .inl rfl | exact .inr rfl) (by first | exact .inl rfl | exact .inr rfl)) (egs_cons (eg_name (i := 3) rfl (by first | exact .inl rfl | exact .inr rfl) (by first | exact .inl rfl | exact .inr rfl)) egs_nil (fun _ => rfl)) (fun _ => rfl)) (fun _ => rfl) (fun _ => rfl)) (exs_cons (ex_if (et_cmp op_neD' (ee_callF (fn_holder_of h) (by decide) rfl (ea_cons (ee_var (i := 0) rfl (by first | exact .inl rfl | exact .inr (.inl rfl) | exact .inr (.inr rfl)) (by decide) (by decide)) (ea_cons (ee_sl (ee_var (i := 1) rfl (by first | exact .inl rfl | exact .inr (.inl rfl) | exact .inr (.inr rfl)) (by decide) (by decide)) eo_none (eo_some (ee_var (i := 2) rfl (by first | exact .inl rfl | exact .inr (.inl rfl) | exact .inr (.inr rfl)) (by decide) (by decide)))) (ea_cons (ee_ix (ee_var (i := 3) rfl (by first | exact .inl rfl | exact .inr (.inl rfl) | exact .inr (.inr rfl)) (by decide) (by decide)) ee_int (fun _ _ => rfl)) (ea_cons (ee_ix (ee_var (i := 3) rfl (by first | exact .inl rfl | exact .inr (.inl rfl) | exact .inr (.inr rfl)) (by decide) (by decide)) ee_int (fun _ _ => rfl)) ea_nil (fun _ _ => rfl)) (fun _ _ => rfl)) (fun _ _ => rfl)) (fun _ _ => rfl)) (fun _ _ => rfl) (fun _ => rfl) (by decide)) (ee_ix (ee_var (i := 3) rfl (by first | exact .inl rfl | exact .inr (.inl rfl) | exact .inr (.inr rfl)) (by decide) (by decide)) ee_int (fun _ _ => rfl)) rfl) (exs_cons (ex_raise1E h.er_NotHeld (by decide) rfl (by decide) (ee_var (i := 2) rfl (by first | exact .inl rfl | exact .inr (.inl rfl) | exact .inr (.inr rfl)) (by decide) (by decide)) (fun _ _ => rfl) (fun _ => rfl))
    (exs_of es_nil)) (exs_of es_nil))
    (exs_of es_nil)) (fun _ _ => rfl))
    (exs_cons (ex_of (es_ret ee_bl))
    (exs_of es_nil)))
theorem fn_look_loans {g : G0} (h : Hyp g) : FnI g "look_loans" 4 (FnN F_look_loans) := fn_ofX (fnx_look_loans h)
theorem sc__law_bent : FnScope ["_law_left_here", "_law_terrace_here", "_law_people", "_law_loans_here", "_law_at", "_law_way", "_law_day", "_law_gate", "_law_giver", "_law_taker", "_law_others", "_law_where", "_law_one"] ["_law_left_here", "_law_terrace_here", "_law_people", "_law_loans_here"] (defScope s__law_bent) := ⟨rfl, rfl, rfl, by decide +kernel, rfl, by decide +kernel, by decide +kernel⟩
def ce__law_bent_1 : M Vl := (eV 12)
def cp__law_bent_1 : M Vl := eComp [12] (mLst (eV 2)) (gN 12) (mB (eP neD (cA (eV 12) (cA (eV 9) cN)))) ce__law_bent_1
def b__law_bent : SM := (sSeq (sPF 4 5 (eCallF F__law_pick (cA (eV 0) (cA (eP lenD (cA (eV 3) cN)) cN))) (eCallF F__law_pick (cA (eV 0) (cA (eC (.int 5)) cN))))
    (sSeq (sAsg (eP ixD (cA (eV 3) (cA (eV 4) cN))) (gT 4 (gsC (gN 6) (gsC (gN 7) (gsC (gN 8) (gsC (gN 9) gsN))))))
    (sSeq (sAsg cp__law_bent_1 (gN 10))
    (sSeq (sIf (mB (eP eqD (cA (eV 5) (cA (eC (.int 0)) cN)))) (sSeq (sRet (eP addD (cA (eP addD (cA (eSl (eV 3) oN (oS (eV 4))) (cA (eLst (cA (eTup (cA (eV 6) (cA (eV 7) (cA (eP ixD (cA (eV 10) (cA (eCallF F__law_pick (cA (eV 0) (cA (eP lenD (cA (eV 10) cN)) cN))) cN))) (cA (eV 9) cN))))) cN)) cN))) (cA (eSl (eV 3) (oS (eP addD (cA (eV 4) (cA (eC (.int 1)) cN)))) oN) cN))))
    sNil) sNil)
    (sSeq (sIf (mB (eP eqD (cA (eV 5) (cA (eC (.int 1)) cN)))) (sSeq (sAsg (eP ixD (cA (eP ixD (cA (eP ixD (cA (eV 1) (cA (eC (.int 1)) cN))) (cA (eCallF F__law_pick (cA (eV 0) (cA (eP lenD (cA (eP ixD (cA (eV 1) (cA (eC (.int 1)) cN))) cN)) cN))) cN))) (cA (eC (.int 0)) cN))) (gN 11))
    (sSeq (sRet (eP addD (cA (eP addD (cA (eSl (eV 3) oN (oS (eV 4))) (cA (eLst (cA (eTup (cA (eP ixD (cA (eLst (cA (eV 6) (cA (eCallF F__law_pick (cA (eV 0) (cA (eC (.int 40)) cN))) cN))) (cA (eCallF F__law_pick (cA (eV 0) (cA (eC (.int 2)) cN))) cN))) (cA (eV 11) (cA (eV 8) (cA (eV 9) cN))))) cN)) cN))) (cA (eSl (eV 3) (oS (eP addD (cA (eV 4) (cA (eC (.int 1)) cN)))) oN) cN))))
    sNil)) sNil)
    (sSeq (sIf (mB (eP eqD (cA (eV 5) (cA (eC (.int 2)) cN)))) (sSeq (sRet (eP addD (cA (eSl (eV 3) oN (oS (eV 4))) (cA (eSl (eV 3) (oS (eP addD (cA (eV 4) (cA (eC (.int 1)) cN)))) oN) cN))))
    sNil) sNil)
    (sSeq (sIf (mB (eP eqD (cA (eV 5) (cA (eC (.int 3)) cN)))) (sSeq (sRet (eP addD (cA (eP addD (cA (eSl (eV 3) oN (oS (eV 4))) (cA (eRev (eSl (eV 3) (oS (eV 4)) (oS (eP addD (cA (eV 4) (cA (eC (.int 2)) cN)))))) cN))) (cA (eSl (eV 3) (oS (eP addD (cA (eV 4) (cA (eC (.int 2)) cN)))) oN) cN))))
    sNil) sNil)
    (sSeq (sRet (eSl (eP addD (cA (eP addD (cA (eSl (eV 3) oN (oS (eV 4))) (cA (eSl (eV 3) (oS (eV 4)) (oS (eP addD (cA (eV 4) (cA (eC (.int 1)) cN))))) cN))) (cA (eSl (eV 3) (oS (eV 4)) oN) cN))) oN (oS (eC (.int 24)))))
    sNil))))))))
def F__law_bent : Fs := ⟨runF [true, false, false, false] 13 b__law_bent, [true, false, false, false]⟩
theorem sem__law_bent (ds : List D) : F__law_bent.sem ds = runF [true, false, false, false] 13 b__law_bent ds := rfl
theorem sig__law_bent : F__law_bent.sig = [true, false, false, false] := rfl
theorem fn__law_bent {g : G0} (h : Hyp g) : FnI g "_law_bent" 3 F__law_bent :=
  fn_rule h.d__law_bent sc__law_bent rfl (es_cons (es_pf (i := 4) (j := 5) rfl rfl (by decide) rfl rfl (ee_callF (fn__law_pick h) (by decide) rfl (ea_cons (ee_var (i := 0) rfl (by first | exact .inl rfl | exact .inr (.inl rfl) | exact .inr (.inr rfl)) (by decide) (by decide)) (ea_cons (ee_callB ca_len rfl h.z_len bt_len (ea_cons (ee_var (i := 3) rfl (by first | exact .inl rfl | exact .inr (.inl rfl) | exact .inr (.inr rfl)) (by decide) (by decide)) ea_nil (fun _ _ => rfl)) (fun _ _ => rfl) (fun _ => rfl) (by decide) (by decide)) ea_nil (fun _ _ => rfl)) (fun _ _ => rfl)) (fun _ _ => rfl) (fun _ => rfl) (by decide)) (ee_callF (fn__law_pick h) (by decide) rfl (ea_cons (ee_var (i := 0) rfl (by first | exact .inl rfl | exact .inr (.inl rfl) | exact .inr (.inr rfl)) (by decide) (by decide)) (ea_cons ee_int ea_nil (fun _ _ => rfl)) (fun _ _ => rfl)) (fun _ _ => rfl) (fun _ => rfl) (by decide)) (fun _ _ => rfl) (fun _ _ => rfl) (fun env he => by cases env; cases he; rfl) (fun _ => rfl))
    (es_cons (es_asg (ee_ix (ee_var (i := 3) rfl (by first | exact .inl rfl | exact .inr (.inl rfl) | exact .inr (.inr rfl)) (by decide) (by decide)) (ee_var (i := 4) rfl (by first | exact .inl rfl | exact .inr (.inl rfl) | exact .inr (.inr rfl)) (by decide) (by decide)) (fun _ _ => rfl)) (eg_tup (egs_cons (eg_name (i := 6) rfl (by first | exact .inl rfl | exact .inr rfl) (by first | exact .inl rfl | exact .inr rfl)) (egs_cons (eg_name (i := 7) rfl (by first | exact .inl rfl | exact .inr rfl) (by first | exact .inl rfl | exact .inr rfl)) (egs_cons (eg_name (i := 8) rfl (by first | exact .inl rfl | exact .inr rfl) (by first | exact .inl rfl | exact .inr rfl)) (egs_cons (eg_name (i := 9) rfl (by first | exact .inl rfl | exact .inr rfl) (by first | exact .inl rfl | exact .inr rfl)) egs_nil (fun _ => rfl)) (fun _ => rfl)) (fun _ => rfl)) (fun _ => rfl)) (fun _ => rfl) (fun _ => rfl)) (fun _ => rfl) (fun env he => by cases env; cases he; rfl) (fun _ => rfl))
    (es_cons (es_setLc (i := 10) rfl rfl (fun env he => by cases env; cases he; rfl) (own := [("_law_one", 12)]) (by first | decide +kernel | (dsimp only; decide +kernel) | rfl) (by decide) (by decide) (ei_list (ee_var (i := 2) rfl (by first | exact .inl rfl | exact .inr (.inl rfl) | exact .inr (.inr rfl)) (by decide) (by decide))) (eg_name (i := 12) rfl (by first | exact .inl rfl | exact .inr rfl) (by first | exact .inl rfl | exact .inr rfl)) (ep_one (et_cmp op_neD' (ee_var (i := 12) rfl (by first | exact .inl rfl | exact .inr (.inl rfl) | exact .inr (.inr rfl)) (by decide) (by decide)) (ee_var (i := 9) rfl (by first | exact .inl rfl | exact .inr (.inl rfl) | exact .inr (.inr rfl)) (by decide) (by decide)) rfl)) (ee_var (i := 12) rfl (by first | exact .inl rfl | exact .inr (.inl rfl) | exact .inr (.inr rfl)) (by decide) (by decide)) (fun _ _ => rfl))
    (es_cons (es_if (et_cmp op_eqD' (ee_var (i := 5) rfl (by first | exact .inl rfl | exact .inr (.inl rfl) | exact .inr (.inr rfl)) (by decide) (by decide)) ee_int rfl) (es_cons (es_ret (ee_bin op_addD (ee_bin op_addD (ee_sl (ee_var (i := 3) rfl (by first | exact .inl rfl | exact .inr (.inl rfl) | exact .inr (.inr rfl)) (by decide) (by decide)) eo_none (eo_some (ee_var (i := 4) rfl (by first | exact .inl rfl | exact .inr (.inl rfl) | exact .inr (.inr rfl)) (by decide) (by decide)))) (ee_lst (ea_cons (ee_tup (ea_cons (ee_var (i := 6) rfl (by first | exact .inl rfl | exact .inr (.inl rfl) | exact .inr (.inr rfl)) (by decide) (by decide)) (ea_cons (ee_var (i := 7) rfl (by first | exact .inl rfl | exact .inr (.inl rfl) | exact .inr (.inr rfl)) (by decide) (by decide)) (ea_cons (ee_ix (ee_var (i := 10) rfl (by first | exact .inl rfl | exact .inr (.inl rfl) | exact .inr (.inr rfl)) (by decide) (by decide)) (ee_callF (fn__law_pick h) (by decide) rfl (ea_cons (ee_var (i := 0) rfl (by first | exact .inl rfl | exact .inr (.inl rfl) | exact .inr (.inr rfl)) (by decide) (by decide)) (ea_cons (ee_callB ca_len rfl h.z_len bt_len (ea_cons (ee_var (i := 10) rfl (by first | exact .inl rfl | exact .inr (.inl rfl) | exact .inr (.inr rfl)) (by decide) (by decide)) ea_nil (fun _ _ => rfl)) (fun _ _ => rfl) (fun _ => rfl) (by decide) (by decide)) ea_nil (fun _ _ => rfl)) (fun _ _ => rfl)) (fun _ _ => rfl) (fun _ => rfl) (by decide)) (fun _ _ => rfl)) (ea_cons (ee_var (i := 9) rfl (by first | exact .inl rfl | exact .inr (.inl rfl) | exact .inr (.inr rfl)) (by decide) (by decide)) ea_nil (fun _ _ => rfl)) (fun _ _ => rfl)) (fun _ _ => rfl)) (fun _ _ => rfl))) ea_nil (fun _ _ => rfl)))) (ee_sl (ee_var (i := 3) rfl (by first | exact .inl rfl | exact .inr (.inl rfl) | exact .inr (.inr rfl)) (by decide) (by decide)) (eo_some (ee_bin op_addD (ee_var (i := 4) rfl (by first | exact .inl rfl | exact .inr (.inl rfl) | exact .inr (.inr rfl)) (by decide) (by decide)) ee_int)) eo_none)))
    es_nil) es_nil)
    (es_cons (es_if (et_cmp op_eqD' (ee_var (i := 5) rfl (by first | exact .inl rfl | exact .inr (.inl rfl) | exact .inr (.inr rfl)) (by decide) (by decide)) ee_int rfl) (es_cons (es_set (i := 11) rfl (by first | exact .inl rfl | exact .inr rfl) (ee_ix (ee_ix (ee_ix (ee_var (i := 1) rfl (by first | exact .inl rfl | exact .inr (.inl rfl) | exact .inr (.inr rfl)) (by decide) (by decide)) ee_int (fun _ _ => rfl)) (ee_callF (fn__law_pick h) (by decide) rfl (ea_cons (ee_var (i := 0) rfl (by first | exact .inl rfl | exact .inr (.inl rfl) | exact .inr (.inr rfl)) (by decide) (by decide)) (ea_cons (ee_callB ca_len rfl h.z_len bt_len (ea_cons (ee_ix (ee_var (i := 1) rfl (by first | exact .inl rfl | exact .inr (.inl rfl) | exact .inr (.inr rfl)) (by decide) (by decide)) ee_int (fun _ _ => rfl)) ea_nil (fun _ _ => rfl)) (fun _ _ => rfl) (fun _ => rfl) (by decide) (by decide)) ea_nil (fun _ _ => rfl)) (fun _ _ => rfl)) (fun _ _ => rfl) (fun _ => rfl) (by decide)) (fun _ _ => rfl)) ee_int (fun _ _ => rfl)) (fun _ => rfl) (.inl rfl))
    (es_cons (es_ret (ee_bin op_addD (ee_bin op_addD (ee_sl (ee_var (i := 3) rfl (by first | exact .inl rfl | exact .inr (.inl rfl) | exact .inr (.inr rfl)) (by decide) (by decide)) eo_none (eo_some (ee_var (i := 4) rfl (by first | exact .inl rfl | exact .inr (.inl rfl) | exact .inr (.inr rfl)) (by decide) (by decide)))) (ee_lst (ea_cons (ee_tup (ea_cons (ee_ix (ee_lst (ea_cons (ee_var (i := 6) rfl (by first | exact .inl rfl | exact .inr (.inl rfl) | exact .inr (.inr rfl)) (by decide) (by decide)) (ea_cons (ee_callF (fn__law_pick h) (by decide) rfl (ea_cons (ee_var (i := 0) rfl (by first | exact .inl rfl | exact .inr (.inl rfl) | exact .inr (.inr rfl)) (by decide) (by decide)) (ea_cons ee_int ea_nil (fun _ _ => rfl)) (fun _ _ => rfl)) (fun _ _ => rfl) (fun _ => rfl) (by decide)) ea_nil (fun _ _ => rfl)) (fun _ _ => rfl))) (ee_callF (fn__law_pick h) (by decide) rfl (ea_cons (ee_var (i := 0) rfl (by first | exact .inl rfl | exact .inr (.inl rfl) | exact .inr (.inr rfl)) (by decide) (by decide)) (ea_cons ee_int ea_nil (fun _ _ => rfl)) (fun _ _ => rfl)) (fun _ _ => rfl) (fun _ => rfl) (by decide)) (fun _ _ => rfl)) (ea_cons (ee_var (i := 11) rfl (by first | exact .inl rfl | exact .inr (.inl rfl) | exact .inr (.inr rfl)) (by decide) (by decide)) (ea_cons (ee_var (i := 8) rfl (by first | exact .inl rfl | exact .inr (.inl rfl) | exact .inr (.inr rfl)) (by decide) (by decide)) (ea_cons (ee_var (i := 9) rfl (by first | exact .inl rfl | exact .inr (.inl rfl) | exact .inr (.inr rfl)) (by decide) (by decide)) ea_nil (fun _ _ => rfl)) (fun _ _ => rfl)) (fun _ _ => rfl)) (fun _ _ => rfl))) ea_nil (fun _ _ => rfl)))) (ee_sl (ee_var (i := 3) rfl (by first | exact .inl rfl | exact .inr (.inl rfl) | exact .inr (.inr rfl)) (by decide) (by decide)) (eo_some (ee_bin op_addD (ee_var (i := 4) rfl (by first | exact .inl rfl | exact .inr (.inl rfl) | exact .inr (.inr rfl)) (by decide) (by decide)) ee_int)) eo_none)))
    es_nil)) es_nil)
    (es_cons (es_if (et_cmp op_eqD' (ee_var (i := 5) rfl (by first | exact .inl rfl | exact .inr (.inl rfl) | exact .inr (.inr rfl)) (by decide) (by decide)) ee_int rfl) (es_cons (es_ret (ee_bin op_addD (ee_sl (ee_var (i := 3) rfl (by first | exact .inl rfl | exact .inr (.inl rfl) | exact .inr (.inr rfl)) (by decide) (by decide)) eo_none (eo_some (ee_var (i := 4) rfl (by first | exact .inl rfl | exact .inr (.inl rfl) | exact .inr (.inr rfl)) (by decide) (by decide)))) (ee_sl (ee_var (i := 3) rfl (by first | exact .inl rfl | exact .inr (.inl rfl) | exact .inr (.inr rfl)) (by decide) (by decide)) (eo_some (ee_bin op_addD (ee_var (i := 4) rfl (by first | exact .inl rfl | exact .inr (.inl rfl) | exact .inr (.inr rfl)) (by decide) (by decide)) ee_int)) eo_none)))
    es_nil) es_nil)
    (es_cons (es_if (et_cmp op_eqD' (ee_var (i := 5) rfl (by first | exact .inl rfl | exact .inr (.inl rfl) | exact .inr (.inr rfl)) (by decide) (by decide)) ee_int rfl) (es_cons (es_ret (ee_bin op_addD (ee_bin op_addD (ee_sl (ee_var (i := 3) rfl (by first | exact .inl rfl | exact .inr (.inl rfl) | exact .inr (.inr rfl)) (by decide) (by decide)) eo_none (eo_some (ee_var (i := 4) rfl (by first | exact .inl rfl | exact .inr (.inl rfl) | exact .inr (.inr rfl)) (by decide) (by decide)))) (ee_rev (ee_sl (ee_var (i := 3) rfl (by first | exact .inl rfl | exact .inr (.inl rfl) | exact .inr (.inr rfl)) (by decide) (by decide)) (eo_some (ee_var (i := 4) rfl (by first | exact .inl rfl | exact .inr (.inl rfl) | exact .inr (.inr rfl)) (by decide) (by decide))) (eo_some (ee_bin op_addD (ee_var (i := 4) rfl (by first | exact .inl rfl | exact .inr (.inl rfl) | exact .inr (.inr rfl)) (by decide) (by decide)) ee_int))))) (ee_sl (ee_var (i := 3) rfl (by first | exact .inl rfl | exact .inr (.inl rfl) | exact .inr (.inr rfl)) (by decide) (by decide)) (eo_some (ee_bin op_addD (ee_var (i := 4) rfl (by first | exact .inl rfl | exact .inr (.inl rfl) | exact .inr (.inr rfl)) (by decide) (by decide)) ee_int)) eo_none)))
    es_nil) es_nil)
    (es_cons (es_ret (ee_sl (ee_bin op_addD (ee_bin op_addD (ee_sl (ee_var (i := 3) rfl (by first | exact .inl rfl | exact .inr (.inl rfl) | exact .inr (.inr rfl)) (by decide) (by decide)) eo_none (eo_some (ee_var (i := 4) rfl (by first | exact .inl rfl | exact .inr (.inl rfl) | exact .inr (.inr rfl)) (by decide) (by decide)))) (ee_sl (ee_var (i := 3) rfl (by first | exact .inl rfl | exact .inr (.inl rfl) | exact .inr (.inr rfl)) (by decide) (by decide)) (eo_some (ee_var (i := 4) rfl (by first | exact .inl rfl | exact .inr (.inl rfl) | exact .inr (.inr rfl)) (by decide) (by decide))) (eo_some (ee_bin op_addD (ee_var (i := 4) rfl (by first | exact .inl rfl | exact .inr (.inl rfl) | exact .inr (.inr rfl)) (by decide) (by decide)) ee_int)))) (ee_sl (ee_var (i := 3) rfl (by first | exact .inl rfl | exact .inr (.inl rfl) | exact .inr (.inr rfl)) (by decide) (by decide)) (eo_some (ee_var (i := 4) rfl (by first | exact .inl rfl | exact .inr (.inl rfl) | exact .inr (.inr rfl)) (by decide) (by decide))) eo_none)) eo_none (eo_some ee_int)))
    es_nil))))))))
theorem sc__law_caught : FnScope ["_law_terrace_here", "_law_loans_here", "_law_caught_here", "error"] ["_law_terrace_here", "_law_loans_here"] (defScope s__law_caught) := ⟨rfl, rfl, rfl, by decide +kernel, rfl, by decide +kernel, by decide +kernel⟩
def b__law_caught : SM := (sSeq (sAsg (eC .non) (gN 2))
    (sSeq (sTryK (sSeq (sCallX F_look_loans (cA (eV 0) (cA (eV 1) cN)))
    sNil) 3 2)
    (sSeq (sRet (eV 2))
    sNil)))
def F__law_caught : Fs := ⟨runF [false, false] 4 b__law_caught, [false, false]⟩
theorem sem__law_caught (ds : List D) : F__law_caught.sem ds = runF [false, false] 4 b__law_caught ds := rfl
theorem sig__law_caught : F__law_caught.sig = [false, false] := rfl
theorem fnx__law_caught {g : G0} (h : Hyp g) : FnX g "_law_caught" 5 F__law_caught :=
  fn_ruleX h.d__law_caught sc__law_caught rfl (exs_cons (ex_of (es_set (i := 2) rfl (by first | exact .inl rfl | exact .inr rfl) ee_non (fun _ => rfl) (.inl rfl)))
    (exs_cons (ex_tryE (i := 3) (j := 2) (exs_cons (ex_call (fnx_look_loans h) (by decide) rfl (ea_cons (ee_var (i := 0) rfl (by first | exact .inl rfl | exact .inr (.inl rfl) | exact .inr (.inr rfl)) (by decide) (by decide)) (ea_cons (ee_var (i := 1) rfl (by first | exact .inl rfl | exact .inr (.inl rfl) | exact .inr (.inr rfl)) (by decide) (by decide)) ea_nil (fun _ _ => rfl)) (fun _ _ => rfl)) (fun _ _ => rfl) (fun _ => rfl) (by decide) (fun _ => rfl))
    (exs_of es_nil)) rfl (fun env he => by cases env; cases he; rfl) rfl (fun env he => by cases env; cases he; rfl) (by first | exact .inl rfl | exact .inr (.inl rfl) | exact .inr (.inr rfl)) (by decide) (by decide) rfl (by decide) h.xc_FieldError)
    (exs_cons (ex_of (es_ret (ee_var (i := 2) rfl (by first | exact .inl rfl | exact .inr (.inl rfl) | exact .inr (.inr rfl)) (by decide) (by decide))))
    (exs_of es_nil))))
theorem fn__law_caught {g : G0} (h : Hyp g) : FnI g "_law_caught" 5 (FnN F__law_caught) := fn_ofX (fnx__law_caught h)
theorem sc__law_first_bad : FnScope ["_law_terrace_here", "_law_loans_here", "_law_held", "_law_place_here", "_law_day", "_law_gate", "_law_giver", "_law_taker"] ["_law_terrace_here", "_law_loans_here"] (defScope s__law_first_bad) := ⟨rfl, rfl, rfl, by decide +kernel, rfl, by decide +kernel, by decide +kernel⟩
def fb__law_first_bad_1 : SM := (sSeq (sIf (mTmp (mB (eP neD (cA (eP ixD (cA (eV 2) (cA (eTup (cA (eV 4) (cA (eV 5) cN))) cN))) (cA (eV 6) cN))))) (sSeq (sRet (eV 3))
    sNil) sNil)
    (sSeq (sAsg (eV 7) (gS setDk (eV 2) (eTup (cA (eV 4) (cA (eV 5) cN)))))
    sNil))
def fl__law_first_bad_1 : SM := sFor (mEnum (eV 1)) (gT 2 (gsC (gN 3) (gsC (gT 4 (gsC (gN 4) (gsC (gN 5) (gsC (gN 6) (gsC (gN 7) gsN))))) gsN))) fb__law_first_bad_1
def b__law_first_bad : SM := (sSeq (sAsg (eCallF F__law_holders (cA (eV 0) (cA (eLst cN) cN))) (gN 2))
    (sSeq fl__law_first_bad_1
    (sSeq (sRet (eC .non))
    sNil)))
def F__law_first_bad : Fs := ⟨runF [false, false] 8 b__law_first_bad, [false, false]⟩
theorem sem__law_first_bad (ds : List D) : F__law_first_bad.sem ds = runF [false, false] 8 b__law_first_bad ds := rfl
theorem sig__law_first_bad : F__law_first_bad.sig = [false, false] := rfl
theorem fn__law_first_bad {g : G0} (h : Hyp g) : FnI g "_law_first_bad" 2 F__law_first_bad :=
  fn_rule h.d__law_first_bad sc__law_first_bad rfl (es_cons (es_set (i := 2) rfl (by first | exact .inl rfl | exact .inr rfl) (ee_callF (fn__law_holders h) (by decide) rfl (ea_cons (ee_var (i := 0) rfl (by first | exact .inl rfl | exact .inr (.inl rfl) | exact .inr (.inr rfl)) (by decide) (by decide)) (ea_cons (ee_lst ea_nil) ea_nil (fun _ _ => rfl)) (fun _ _ => rfl)) (fun _ _ => rfl) (fun _ => rfl) (by decide)) (fun _ => rfl) (.inl rfl))
    (es_cons (es_for (ei_enum rfl h.z_enumerate (ee_var (i := 1) rfl (by first | exact .inl rfl | exact .inr (.inl rfl) | exact .inr (.inr rfl)) (by decide) (by decide)) (fun _ _ => rfl)) (eg_tup (egs_cons (eg_name (i := 3) rfl (by first | exact .inl rfl | exact .inr rfl) (by first | exact .inl rfl | exact .inr rfl)) (egs_cons (eg_tup (egs_cons (eg_name (i := 4) rfl (by first | exact .inl rfl | exact .inr rfl) (by first | exact .inl rfl | exact .inr rfl)) (egs_cons (eg_name (i := 5) rfl (by first | exact .inl rfl | exact .inr rfl) (by first | exact .inl rfl | exact .inr rfl)) (egs_cons (eg_name (i := 6) rfl (by first | exact .inl rfl | exact .inr rfl) (by first | exact .inl rfl | exact .inr rfl)) (egs_cons (eg_name (i := 7) rfl (by first | exact .inl rfl | exact .inr rfl) (by first | exact .inl rfl | exact .inr rfl)) egs_nil (fun _ => rfl)) (fun _ => rfl)) (fun _ => rfl)) (fun _ => rfl)) (fun _ => rfl) (fun _ => rfl)) egs_nil (fun _ => rfl)) (fun _ => rfl)) (fun _ => rfl) (fun _ => rfl)) (es_cons (es_if (et_tmp (et_cmp op_neD' (ee_ix (ee_var (i := 2) rfl (by first | exact .inl rfl | exact .inr (.inl rfl) | exact .inr (.inr rfl)) (by decide) (by decide)) (ee_tup (ea_cons (ee_var (i := 4) rfl (by first | exact .inl rfl | exact .inr (.inl rfl) | exact .inr (.inr rfl)) (by decide) (by decide)) (ea_cons (ee_var (i := 5) rfl (by first | exact .inl rfl | exact .inr (.inl rfl) | exact .inr (.inr rfl)) (by decide) (by decide)) ea_nil (fun _ _ => rfl)) (fun _ _ => rfl))) (fun _ _ => rfl)) (ee_var (i := 6) rfl (by first | exact .inl rfl | exact .inr (.inl rfl) | exact .inr (.inr rfl)) (by decide) (by decide)) rfl)) (es_cons (es_ret (ee_var (i := 3) rfl (by first | exact .inl rfl | exact .inr (.inl rfl) | exact .inr (.inr rfl)) (by decide) (by decide)))
    es_nil) es_nil)
    (es_cons (es_asg (ee_var (i := 7) rfl (by first | exact .inl rfl | exact .inr (.inl rfl) | exact .inr (.inr rfl)) (by decide) (by decide)) (eg_sub se_any (ee_var (i := 2) rfl (by first | exact .inl rfl | exact .inr (.inl rfl) | exact .inr (.inr rfl)) (by decide) (by decide)) (ee_tup (ea_cons (ee_var (i := 4) rfl (by first | exact .inl rfl | exact .inr (.inl rfl) | exact .inr (.inr rfl)) (by decide) (by decide)) (ea_cons (ee_var (i := 5) rfl (by first | exact .inl rfl | exact .inr (.inl rfl) | exact .inr (.inr rfl)) (by decide) (by decide)) ea_nil (fun _ _ => rfl)) (fun _ _ => rfl))) (fun _ _ => rfl)) (fun _ => rfl) (fun env he => by cases env; cases he; rfl) (fun _ => rfl))
    es_nil)) (fun _ _ => rfl))
    (es_cons (es_ret ee_non)
    es_nil)))
theorem sc__law_place : FnScope ["_law_caught_here", "_law_others"] ["_law_caught_here"] (defScope s__law_place) := ⟨rfl, rfl, rfl, by decide +kernel, rfl, by decide +kernel, by decide +kernel⟩
def b__law_place : SM := (sSeq (sAsg (eTup (cA (eP (isX ["NotHeld"] ["BadRow", "Clash", "NoDeed", "NoField", "NoGate", "NoLet", "NoRow", "NoWant", "TooHigh", "TooMuch", "Used", "NotHeld"]) (cA (eV 0) (cA (eTup (cA (eC (.cl "BadRow")) (cA (eC (.cl "Clash")) (cA (eC (.cl "NoDeed")) (cA (eC (.cl "NoField")) (cA (eC (.cl "NoGate")) (cA (eC (.cl "NoLet")) (cA (eC (.cl "NoRow")) (cA (eC (.cl "NoWant")) cN))))))))) cN))) (cA (eC (.bl false)) cN))) (gN 1))
    (sSeq (sIf (mOr (mB (eP ixD (cA (eV 1) (cA (eC (.int 0)) cN)))) (mOr (mB (eP (isX ["NotHeld"] ["BadRow", "Clash", "NoDeed", "NoField", "NoGate", "NoLet", "NoRow", "NoWant", "TooHigh", "TooMuch", "Used", "NotHeld"]) (cA (eV 0) (cA (eTup (cA (eC (.cl "TooHigh")) (cA (eC (.cl "TooMuch")) (cA (eC (.cl "Used")) cN)))) cN)))) (mNot (mB (eP (isX ["NotHeld"] ["BadRow", "Clash", "NoDeed", "NoField", "NoGate", "NoLet", "NoRow", "NoWant", "TooHigh", "TooMuch", "Used", "NotHeld"]) (cA (eV 0) (cA (eC (.cl "NotHeld")) cN))))))) (sSeq (sRet (eP negD (cA (eC (.int 1)) cN)))
    sNil) sNil)
    (sSeq (sRet (eIf (mB (eP (isX ["NotHeld"] ["BadRow", "Clash", "NoDeed", "NoField", "NoGate", "NoLet", "NoRow", "NoWant", "TooHigh", "TooMuch", "Used", "NotHeld"]) (cA (eV 0) (cA (eC (.ty "ValueError")) cN)))) (eP (atX ["NotHeld"] "place") (cA (eV 0) cN)) (eP negD (cA (eC (.int 1)) cN))))
    sNil)))
def F__law_place : Fs := ⟨runF [false] 2 b__law_place, [false]⟩
theorem sem__law_place (ds : List D) : F__law_place.sem ds = runF [false] 2 b__law_place ds := rfl
theorem sig__law_place : F__law_place.sig = [false] := rfl
theorem fn__law_place {g : G0} (h : Hyp g) : FnI g "_law_place" 1 F__law_place :=
  fn_rule h.d__law_place sc__law_place rfl (es_cons (es_set (i := 1) rfl (by first | exact .inl rfl | exact .inr rfl) (ee_tup (ea_cons (ee_callB (ca_isX h.ei) rfl h.z_isinstance bt_isinstance (ea_cons (ee_var (i := 0) rfl (by first | exact .inl rfl | exact .inr (.inl rfl) | exact .inr (.inr rfl)) (by decide) (by decide)) (ea_cons (ee_tup (ea_cons (ee_clE rfl (by decide) h.cl_BadRow) (ea_cons (ee_clE rfl (by decide) h.cl_Clash) (ea_cons (ee_clE rfl (by decide) h.cl_NoDeed) (ea_cons (ee_clE rfl (by decide) h.cl_NoField) (ea_cons (ee_clE rfl (by decide) h.cl_NoGate) (ea_cons (ee_clE rfl (by decide) h.cl_NoLet) (ea_cons (ee_clE rfl (by decide) h.cl_NoRow) (ea_cons (ee_clE rfl (by decide) h.cl_NoWant) ea_nil (fun _ _ => rfl)) (fun _ _ => rfl)) (fun _ _ => rfl)) (fun _ _ => rfl)) (fun _ _ => rfl)) (fun _ _ => rfl)) (fun _ _ => rfl)) (fun _ _ => rfl))) ea_nil (fun _ _ => rfl)) (fun _ _ => rfl)) (fun _ _ => rfl) (fun _ => rfl) (by decide) (by decide)) (ea_cons ee_bl ea_nil (fun _ _ => rfl)) (fun _ _ => rfl))) (fun _ => rfl) (.inl rfl))
    (es_cons (es_if (et_w (ew_or (et_val (ee_ix (ee_var (i := 1) rfl (by first | exact .inl rfl | exact .inr (.inl rfl) | exact .inr (.inr rfl)) (by decide) (by decide)) ee_int (fun _ _ => rfl)) (fun _ _ => rfl)) (ew_or (et_val (ee_callB (ca_isX h.ei) rfl h.z_isinstance bt_isinstance (ea_cons (ee_var (i := 0) rfl (by first | exact .inl rfl | exact .inr (.inl rfl) | exact .inr (.inr rfl)) (by decide) (by decide)) (ea_cons (ee_tup (ea_cons (ee_clE rfl (by decide) h.cl_TooHigh) (ea_cons (ee_clE rfl (by decide) h.cl_TooMuch) (ea_cons (ee_clE rfl (by decide) h.cl_Used) ea_nil (fun _ _ => rfl)) (fun _ _ => rfl)) (fun _ _ => rfl))) ea_nil (fun _ _ => rfl)) (fun _ _ => rfl)) (fun _ _ => rfl) (fun _ => rfl) (by decide) (by decide)) (fun _ _ => rfl)) (ew_or1 (et_not (et_val (ee_callB (ca_isX h.ei) rfl h.z_isinstance bt_isinstance (ea_cons (ee_var (i := 0) rfl (by first | exact .inl rfl | exact .inr (.inl rfl) | exact .inr (.inr rfl)) (by decide) (by decide)) (ea_cons (ee_clE rfl (by decide) h.cl_NotHeld) ea_nil (fun _ _ => rfl)) (fun _ _ => rfl)) (fun _ _ => rfl) (fun _ => rfl) (by decide) (by decide)) (fun _ _ => rfl))))))) (es_cons (es_ret (ee_un un_negD ee_int))
    es_nil) es_nil)
    (es_cons (es_ret (ee_if (et_val (ee_callB (ca_isX h.ei) rfl h.z_isinstance bt_isinstance (ea_cons (ee_var (i := 0) rfl (by first | exact .inl rfl | exact .inr (.inl rfl) | exact .inr (.inr rfl)) (by decide) (by decide)) (ea_cons (ee_ty (n := "ValueError") rfl h.z_ValueError bt_ValueError (by decide) (by decide)) ea_nil (fun _ _ => rfl)) (fun _ _ => rfl)) (fun _ _ => rfl) (fun _ => rfl) (by decide) (by decide)) (fun _ _ => rfl)) (ee_atX (ee_var (i := 0) rfl (by first | exact .inl rfl | exact .inr (.inl rfl) | exact .inr (.inr rfl)) (by decide) (by decide)) h.xa_place (fun _ => rfl)) (ee_un un_negD ee_int)))
    es_nil)))
theorem sc_law : FnScope ["_law_script", "_law_k", "_law_left_here", "_law_held", "_law_terrace_here", "_law_people", "_law_loans_here", "_law_turn", "_law_some", "_law_due", "_law_kept", "_law_caught_here"] ["_law_script"] (defScope s_law) := ⟨rfl, rfl, rfl, by decide +kernel, rfl, by decide +kernel, by decide +kernel⟩
def ce_law_1 : M Vl := (eP eqD (cA (eCallF F__law_place (cA (eV 11) cN)) (cA (eV 9) cN)))
def cp_law_1 : M Vl := eComp [11, 9] (mLst (eV 3)) (gT 2 (gsC (gN 11) (gsC (gN 9) gsN))) (rt true) ce_law_1
def fb_law_2 : SM := (sSeq (sAsg (eCallF F__law_bent (cA (eV 2) (cA (eV 4) (cA (eV 5) (cA (eV 6) cN))))) (gN 8))
    (sSeq (sIf (mAnd (mB (eP neD (cA (eV 8) (cA (eLst cN) cN)))) (mB (eP eqD (cA (eCallF F__law_pick (cA (eV 2) (cA (eC (.int 3)) cN))) (cA (eC (.int 0)) cN))))) (sSeq (sAsg (eCallF F__law_bent (cA (eV 2) (cA (eV 4) (cA (eV 5) (cA (eV 8) cN))))) (gN 8))
    sNil) sNil)
    (sSeq (sPF 9 10 (eCallF F__law_first_bad (cA (eV 4) (cA (eV 8) cN))) (eP reprD (cA (eLst (cA (eV 4) (cA (eV 8) cN))) cN)))
    (sSeq (sAsg (eCallF (FnN F__law_caught) (cA (eV 4) (cA (eV 8) cN))) (gN 11))
    (sSeq (sIf (mTmp (mOr (mB (eP neD (cA (eP reprD (cA (eLst (cA (eV 4) (cA (eV 8) cN))) cN)) (cA (eV 10) cN)))) (mB (eP neD (cA (eP isD (cA (eV 11) (cA (eC .non) cN))) (cA (eP isD (cA (eV 9) (cA (eC .non) cN))) cN)))))) (sSeq (sRet (eC (.bl false)))
    sNil) sNil)
    (sSeq (sIf (mAnd (mB (eP isD (cA (eV 11) (cA (eC .non) cN)))) (mB (eP isnD (cA (eCallF (FnN F_look_loans) (cA (eV 4) (cA (eV 8) cN))) (cA (eC (.bl true)) cN))))) (sSeq (sRet (eC (.bl false)))
    sNil) sNil)
    (sSeq (sExp (eU "list" extendD (eV 3) (cA (eP mulD (cA (eLst (cA (eTup (cA (eV 11) (cA (eV 9) cN))) cN)) (cA (eP intD (cA (eP isnD (cA (eV 11) (cA (eC .non) cN))) cN)) cN))) cN)))
    sNil)))))))
def fl_law_2 : SM := sFor (mR1 (cA (eP mulD (cA (eC (.int 5)) (cA (eP intD (cA (eP neD (cA (eV 6) (cA (eLst cN) cN))) cN)) cN))) cN)) (gN 7) fb_law_2
def fb_law_3 : SM := (sSeq (sPF 2 3 (eCallF F__law_left (cA (eV 0) (cA (eV 1) cN))) (eLst cN))
    (sSeq (sAsg (eCallF F__law_case (cA (eV 2) (cA (eP eqD (cA (eCallF F__law_pick (cA (eV 2) (cA (eC (.int 6)) cN))) (cA (eC (.int 0)) cN))) cN))) (gT 3 (gsC (gN 4) (gsC (gN 5) (gsC (gN 6) gsN)))))
    (sSeq (sIf (mB (eP isnD (cA (eCallF (FnN F_look_loans) (cA (eV 4) (cA (eP listD (cA (eV 6) cN)) cN))) (cA (eC (.bl true)) cN)))) (sSeq (sRet (eC (.bl false)))
    sNil) sNil)
    (sSeq fl_law_2
    (sSeq (sIf (mTmp (mNot (mB (eP allD (cA cp_law_1 cN))))) (sSeq (sRet (eC (.bl false)))
    sNil) sNil)
    sNil)))))
def fl_law_3 : SM := sFor (mR1 (cA (eP addD (cA (eC (.int 1)) (cA (eP minD (cA (eC (.int 6)) (cA (eP lenD (cA (eV 0) cN)) cN))) cN))) cN)) (gN 1) fb_law_3
def b_law : SM := (sSeq fl_law_3
    (sSeq (sRet (eC (.bl true)))
    sNil))
def F_law : Fs := ⟨runF [false] 12 b_law, [false]⟩
theorem sem_law0 (ds : List D) : F_law.sem ds = runF [false] 12 b_law ds := rfl
theorem sig_law : F_law.sig = [false] := rfl
theorem fg_law {g : G0} (h : Hyp g) {f : Addr} {fd : FuncData} (hf : Fun g.K "law" "law" s_law f fd) : FnG g 6 f fd ["_law_script"] (spF g.K F_law) :=
  fn_at hf sc_law rfl (es_cons (es_for (ei_r1 rfl h.z_range (ea_cons (ee_bin op_addD ee_int (ee_callB ca_min rfl h.z_min bt_min (ea_cons ee_int (ea_cons (ee_callB ca_len rfl h.z_len bt_len (ea_cons (ee_var (i := 0) rfl (by first | exact .inl rfl | exact .inr (.inl rfl) | exact .inr (.inr rfl)) (by decide) (by decide)) ea_nil (fun _ _ => rfl)) (fun _ _ => rfl) (fun _ => rfl) (by decide) (by decide)) ea_nil (fun _ _ => rfl)) (fun _ _ => rfl)) (fun _ _ => rfl) (fun _ => rfl) (by decide) (by decide))) ea_nil (fun _ _ => rfl)) (fun _ _ => rfl)) (eg_name (i := 1) rfl (by first | exact .inl rfl | exact .inr rfl) (by first | exact .inl rfl | exact .inr rfl)) (es_cons (es_pf (i := 2) (j := 3) rfl rfl (by decide) rfl rfl (ee_callF (fn__law_left h) (by decide) rfl (ea_cons (ee_var (i := 0) rfl (by first | exact .inl rfl | exact .inr (.inl rfl) | exact .inr (.inr rfl)) (by decide) (by decide)) (ea_cons (ee_var (i := 1) rfl (by first | exact .inl rfl | exact .inr (.inl rfl) | exact .inr (.inr rfl)) (by decide) (by decide)) ea_nil (fun _ _ => rfl)) (fun _ _ => rfl)) (fun _ _ => rfl) (fun _ => rfl) (by decide)) (ee_lst ea_nil) (fun _ _ => rfl) (fun _ _ => rfl) (fun env he => by cases env; cases he; rfl) (fun _ => rfl))
    (es_cons (es_asg (ee_callF (fn__law_case h) (by decide) rfl (ea_cons (ee_var (i := 2) rfl (by first | exact .inl rfl | exact .inr (.inl rfl) | exact .inr (.inr rfl)) (by decide) (by decide)) (ea_cons (ee_cmp op_eqD' (ee_callF (fn__law_pick h) (by decide) rfl (ea_cons (ee_var (i := 2) rfl (by first | exact .inl rfl | exact .inr (.inl rfl) | exact .inr (.inr rfl)) (by decide) (by decide)) (ea_cons ee_int ea_nil (fun _ _ => rfl)) (fun _ _ => rfl)) (fun _ _ => rfl) (fun _ => rfl) (by decide)) ee_int rfl) ea_nil (fun _ _ => rfl)) (fun _ _ => rfl)) (fun _ _ => rfl) (fun _ => rfl) (by decide)) (eg_tup (egs_cons (eg_name (i := 4) rfl (by first | exact .inl rfl | exact .inr rfl) (by first | exact .inl rfl | exact .inr rfl)) (egs_cons (eg_name (i := 5) rfl (by first | exact .inl rfl | exact .inr rfl) (by first | exact .inl rfl | exact .inr rfl)) (egs_cons (eg_name (i := 6) rfl (by first | exact .inl rfl | exact .inr rfl) (by first | exact .inl rfl | exact .inr rfl)) egs_nil (fun _ => rfl)) (fun _ => rfl)) (fun _ => rfl)) (fun _ => rfl) (fun _ => rfl)) (fun _ => rfl) (fun env he => by cases env; cases he; rfl) (fun _ => rfl))
    (es_cons (es_if (et_cmp op_isnD (ee_callF (fn_look_loans h) (by decide) rfl (ea_cons (ee_var (i := 4) rfl (by first | exact .inl rfl | exact .inr (.inl rfl) | exact .inr (.inr rfl)) (by decide) (by decide)) (ea_cons (ee_callTy ca_list rfl h.z_list bt_list (ea_cons (ee_var (i := 6) rfl (by first | exact .inl rfl | exact .inr (.inl rfl) | exact .inr (.inr rfl)) (by decide) (by decide)) ea_nil (fun _ _ => rfl)) (fun _ _ => rfl) (fun _ => rfl) (by decide) (by decide)) ea_nil (fun _ _ => rfl)) (fun _ _ => rfl)) (fun _ _ => rfl) (fun _ => rfl) (by decide)) ee_bl rfl) (es_cons (es_ret ee_bl)
    es_nil) es_nil)
    (es_cons (es_for (ei_r1 rfl h.z_range (ea_cons (ee_bin op_mulD ee_int (ee_callTy ca_int rfl h.z_int bt_int (ea_cons (ee_cmp op_neD' (ee_var (i := 6) rfl (by first | exact .inl rfl | exact .inr (.inl rfl) | exact .inr (.inr rfl)) (by decide) (by decide)) (ee_lst ea_nil) rfl) ea_nil (fun _ _ => rfl)) (fun _ _ => rfl) (fun _ => rfl) (by decide) (by decide))) ea_nil (fun _ _ => rfl)) (fun _ _ => rfl)) (eg_name (i := 7) rfl (by first | exact .inl rfl | exact .inr rfl) (by first | exact .inl rfl | exact .inr rfl)) (es_cons (es_set (i := 8) rfl (by first | exact .inl rfl | exact .inr rfl) (ee_callF (fn__law_bent h) (by decide) rfl (ea_cons (ee_var (i := 2) rfl (by first | exact .inl rfl | exact .inr (.inl rfl) | exact .inr (.inr rfl)) (by decide) (by decide)) (ea_cons (ee_var (i := 4) rfl (by first | exact .inl rfl | exact .inr (.inl rfl) | exact .inr (.inr rfl)) (by decide) (by decide)) (ea_cons (ee_var (i := 5) rfl (by first | exact .inl rfl | exact .inr (.inl rfl) | exact .inr (.inr rfl)) (by decide) (by decide)) (ea_cons (ee_var (i := 6) rfl (by first | exact .inl rfl | exact .inr (.inl rfl) | exact .inr (.inr rfl)) (by decide) (by decide)) ea_nil (fun _ _ => rfl)) (fun _ _ => rfl)) (fun _ _ => rfl)) (fun _ _ => rfl)) (fun _ _ => rfl) (fun _ => rfl) (by decide)) (fun _ => rfl) (.inl rfl))
    (es_cons (es_if (et_w (ew_and (et_cmp op_neD' (ee_var (i := 8) rfl (by first | exact .inl rfl | exact .inr (.inl rfl) | exact .inr (.inr rfl)) (by decide) (by decide)) (ee_lst ea_nil) rfl) (ew_and1 (et_cmp op_eqD' (ee_callF (fn__law_pick h) (by decide) rfl (ea_cons (ee_var (i := 2) rfl (by first | exact .inl rfl | exact .inr (.inl rfl) | exact .inr (.inr rfl)) (by decide) (by decide)) (ea_cons ee_int ea_nil (fun _ _ => rfl)) (fun _ _ => rfl)) (fun _ _ => rfl) (fun _ => rfl) (by decide)) ee_int rfl)))) (es_cons (es_set (i := 8) rfl (by first | exact .inl rfl | exact .inr rfl) (ee_callF (fn__law_bent h) (by decide) rfl (ea_cons (ee_var (i := 2) rfl (by first | exact .inl rfl | exact .inr (.inl rfl) | exact .inr (.inr rfl)) (by decide) (by decide)) (ea_cons (ee_var (i := 4) rfl (by first | exact .inl rfl | exact .inr (.inl rfl) | exact .inr (.inr rfl)) (by decide) (by decide)) (ea_cons (ee_var (i := 5) rfl (by first | exact .inl rfl | exact .inr (.inl rfl) | exact .inr (.inr rfl)) (by decide) (by decide)) (ea_cons (ee_var (i := 8) rfl (by first | exact .inl rfl | exact .inr (.inl rfl) | exact .inr (.inr rfl)) (by decide) (by decide)) ea_nil (fun _ _ => rfl)) (fun _ _ => rfl)) (fun _ _ => rfl)) (fun _ _ => rfl)) (fun _ _ => rfl) (fun _ => rfl) (by decide)) (fun _ => rfl) (.inl rfl))
    es_nil) es_nil)
    (es_cons (es_pf (i := 9) (j := 10) rfl rfl (by decide) rfl rfl (ee_callF (fn__law_first_bad h) (by decide) rfl (ea_cons (ee_var (i := 4) rfl (by first | exact .inl rfl | exact .inr (.inl rfl) | exact .inr (.inr rfl)) (by decide) (by decide)) (ea_cons (ee_var (i := 8) rfl (by first | exact .inl rfl | exact .inr (.inl rfl) | exact .inr (.inr rfl)) (by decide) (by decide)) ea_nil (fun _ _ => rfl)) (fun _ _ => rfl)) (fun _ _ => rfl) (fun _ => rfl) (by decide)) (ee_callB ca_repr rfl h.z_repr bt_repr (ea_cons (ee_lst (ea_cons (ee_var (i := 4) rfl (by first | exact .inl rfl | exact .inr (.inl rfl) | exact .inr (.inr rfl)) (by decide) (by decide)) (ea_cons (ee_var (i := 8) rfl (by first | exact .inl rfl | exact .inr (.inl rfl) | exact .inr (.inr rfl)) (by decide) (by decide)) ea_nil (fun _ _ => rfl)) (fun _ _ => rfl))) ea_nil (fun _ _ => rfl)) (fun _ _ => rfl) (fun _ => rfl) (by decide) (by decide)) (fun _ _ => rfl) (fun _ _ => rfl) (fun env he => by cases env; cases he; rfl) (fun _ => rfl))
    (es_cons (es_set (i := 11) rfl (by first | exact .inl rfl | exact .inr rfl) (ee_callF (fn__law_caught h) (by decide) rfl (ea_cons (ee_var (i := 4) rfl (by first | exact .inl rfl | exact .inr (.inl rfl) | exact .inr (.inr rfl)) (by decide) (by decide)) (ea_cons (ee_var (i := 8) rfl (by first | exact .inl rfl | exact .inr (.inl rfl) | exact .inr (.inr rfl)) (by decide) (by decide)) ea_nil (fun _ _ => rfl)) (fun _ _ => rfl)) (fun _ _ => rfl) (fun _ => rfl) (by decide)) (fun _ => rfl) (.inl rfl))
    (es_cons (es_if (et_tmp (et_w (ew_or (et_cmp op_neD' (ee_callB ca_repr rfl h.z_repr bt_repr (ea_cons (ee_lst (ea_cons (ee_var (i := 4) rfl (by first | exact .inl rfl | exact .inr (.inl rfl) | exact .inr (.inr rfl)) (by decide) (by decide)) (ea_cons (ee_var (i := 8) rfl (by first | exact .inl rfl | exact .inr (.inl rfl) | exact .inr (.inr rfl)) (by decide) (by decide)) ea_nil (fun _ _ => rfl)) (fun _ _ => rfl))) ea_nil (fun _ _ => rfl)) (fun _ _ => rfl) (fun _ => rfl) (by decide) (by decide)) (ee_var (i := 10) rfl (by first | exact .inl rfl | exact .inr (.inl rfl) | exact .inr (.inr rfl)) (by decide) (by decide)) rfl) (ew_or1 (et_cmp op_neD' (ee_cmp op_isD (ee_var (i := 11) rfl (by first | exact .inl rfl | exact .inr (.inl rfl) | exact .inr (.inr rfl)) (by decide) (by decide)) ee_non rfl) (ee_cmp op_isD (ee_var (i := 9) rfl (by first | exact .inl rfl | exact .inr (.inl rfl) | exact .inr (.inr rfl)) (by decide) (by decide)) ee_non rfl) rfl))))) (es_cons (es_ret ee_bl)
    es_nil) es_nil)
    (es_cons (es_if (et_w (ew_and (et_cmp op_isD (ee_var (i := 11) rfl (by first | exact .inl rfl | exact .inr (.inl rfl) | exact .inr (.inr rfl)) (by decide) (by decide)) ee_non rfl) (ew_and1 (et_cmp op_isnD (ee_callF (fn_look_loans h) (by decide) rfl (ea_cons (ee_var (i := 4) rfl (by first | exact .inl rfl | exact .inr (.inl rfl) | exact .inr (.inr rfl)) (by decide) (by decide)) (ea_cons (ee_var (i := 8) rfl (by first | exact .inl rfl | exact .inr (.inl rfl) | exact .inr (.inr rfl)) (by decide) (by decide)) ea_nil (fun _ _ => rfl)) (fun _ _ => rfl)) (fun _ _ => rfl) (fun _ => rfl) (by decide)) ee_bl rfl)))) (es_cons (es_ret ee_bl)
    es_nil) es_nil)
    (es_cons (es_exp (ee_mut mu_extend (ee_var (i := 3) rfl (by first | exact .inl rfl | exact .inr (.inl rfl) | exact .inr (.inr rfl)) (by decide) (by decide)) (ea_cons (ee_bin op_mulD (ee_lst (ea_cons (ee_tup (ea_cons (ee_var (i := 11) rfl (by first | exact .inl rfl | exact .inr (.inl rfl) | exact .inr (.inr rfl)) (by decide) (by decide)) (ea_cons (ee_var (i := 9) rfl (by first | exact .inl rfl | exact .inr (.inl rfl) | exact .inr (.inr rfl)) (by decide) (by decide)) ea_nil (fun _ _ => rfl)) (fun _ _ => rfl))) ea_nil (fun _ _ => rfl))) (ee_callTy ca_int rfl h.z_int bt_int (ea_cons (ee_cmp op_isnD (ee_var (i := 11) rfl (by first | exact .inl rfl | exact .inr (.inl rfl) | exact .inr (.inr rfl)) (by decide) (by decide)) ee_non rfl) ea_nil (fun _ _ => rfl)) (fun _ _ => rfl) (fun _ => rfl) (by decide) (by decide))) ea_nil (fun _ _ => rfl)) (fun _ _ => rfl) (fun _ => rfl) (fun _ => rfl) rfl (fun _ => rfl)) (fun _ => rfl))
    es_nil))))))) (fun _ _ => rfl))
    (es_cons (es_if (et_tmp (et_not (et_val (ee_callB ca_all rfl h.z_all bt_all (ea_cons (ee_comp (own := [("_law_caught_here", 11), ("_law_due", 9)]) (by first | decide +kernel | (dsimp only; decide +kernel) | rfl) (by decide) (by decide) (ei_list (ee_var (i := 3) rfl (by first | exact .inl rfl | exact .inr (.inl rfl) | exact .inr (.inr rfl)) (by decide) (by decide))) (eg_tup (egs_cons (eg_name (i := 11) rfl (by first | exact .inl rfl | exact .inr rfl) (by first | exact .inl rfl | exact .inr rfl)) (egs_cons (eg_name (i := 9) rfl (by first | exact .inl rfl | exact .inr rfl) (by first | exact .inl rfl | exact .inr rfl)) egs_nil (fun _ => rfl)) (fun _ => rfl)) (fun _ => rfl) (fun _ => rfl)) ep_nil (ee_cmp op_eqD' (ee_callF (fn__law_place h) (by decide) rfl (ea_cons (ee_var (i := 11) rfl (by first | exact .inl rfl | exact .inr (.inl rfl) | exact .inr (.inr rfl)) (by decide) (by decide)) ea_nil (fun _ _ => rfl)) (fun _ _ => rfl) (fun _ => rfl) (by decide)) (ee_var (i := 9) rfl (by first | exact .inl rfl | exact .inr (.inl rfl) | exact .inr (.inr rfl)) (by decide) (by decide)) rfl) (fun _ _ => rfl)) ea_nil (fun _ _ => rfl)) (fun _ _ => rfl) (fun _ => rfl) (by decide) (by decide)) (fun _ _ => rfl)))) (es_cons (es_ret ee_bl)
    es_nil) es_nil)
    es_nil))))) (fun _ _ => rfl))
    (es_cons (es_ret ee_bl)
    es_nil))
end L_k35
namespace L_k35
open PySem PySem.Spec PyProof.Rows L2 PD
local macro_rules | `(tactic| simp_arith [$xs,*]) => `(tactic| try simp only [↓W_eDisp, ↓W_qN, ↓W_qA, ↓W_qJs, ↓W_qJi, ↓W_rt, ↓W_bd, ↓W_eC, ↓W_eV, ↓W_cN, ↓W_cA, ↓W_eP, ↓W_eM, ↓W_eMf, ↓W_ckF, ↓W_ckT, ↓W_eU, ↓W_eUC, ↓W_eTup, ↓W_eLst, ↓W_eDk, ↓W_eDt, ↓W_mB, ↓W_mT, ↓W_mNot, ↓W_mAnd, ↓W_mOr, ↓W_eNot, ↓W_eAnd, ↓W_eOr, ↓W_eIf, ↓W_eTmp, ↓W_eTmpA, ↓W_cNn, ↓W_cAn, ↓W_eTmpL, ↓W_mTmp, ↓W_oN, ↓W_oS, ↓W_eSl, ↓W_eChain, ↓W_sNil, ↓W_sPass, ↓W_sBrk, ↓W_sCnt, ↓W_sRetN, ↓W_sSeq, ↓W_sExp, ↓W_sRet, ↓W_sIf, ↓W_sAsg, ↓W_gsN, ↓W_gsC, ↓W_gT, ↓W_gTl, ↓W_gS, ↓W_sRaise0, ↓W_sRaise1, ↓W_sTryK, ↓W_sCallX, ↓W_hb_im, ↓W_hb_fr, ↓W_hb_bo, ↓W_sPF, ↓W_sPF3, ↓W_sPF4, ↓W_gN_im, ↓W_gN_fr, ↓W_gN_bo, ↓W_frz_im, ↓W_frz_fr, ↓W_frz_bo, ↓W_frzs_nil, ↓W_frzs_cons, ↓W_frzA_nil, ↓W_frzA_t, ↓W_frzA_im, ↓W_frzA_bo, ↓W_callE, ↓W_eCallN, ↓W_eCallF, ↓WO_runF, ↓W_mR1, ↓W_mR2, ↓W_mR3, ↓W_eRev, ↓W_eRev2, ↓W_eRev7, ↓W_eFrz, ↓W_eGetZ, ↓W_eKf, ↓W_eLk, ↓W_mLst, ↓W_mLz, ↓W_mTup, ↓W_mEnum, ↓W_mEnumT, ↓W_mStr, ↓W_mDk, ↓W_mZip, ↓W_sFor, ↓W_sWhl, ↓W_eComp, ↓W_eTupB, ↓W_sAug, ↓W_sAugS, ↓W_eTmpD, ↓W_eTmpU, ↓W_sLkS, ↓W_mDi, ↓W_mZipM, ↓Rw_to4, ↓Rw_from4, ↓W_gT_Fld, ↓W_gT_Gt, ↓W_gT_Lt, ↓W_gT_bD, ↓W_gT_Dn, ↓W_gT_Rw, ↓Fld_i0, ↓Fld_i1, ↓Fld_i2, ↓Fld_i3, ↓Fld_i4, ↓Gt_i0, ↓Gt_i1, ↓Gt_i2, ↓Gt_i3, ↓Lt_i0, ↓Lt_i1, ↓Lt_i2, ↓bD_i0, ↓bD_i1, ↓Dn_i0, ↓Dn_i1, ↓Dn_i2, ↓Dn_i3, ↓Rw_i0, ↓Rw_i1, ↓Rw_i2, ↓Rw_i3, ↓Rw_i4, ↓Rw_i5, ↓Rw_i6, ↓Ter_i0, ↓Ter_i1, FnN_sig, Fk_sem, Fk_sig, exV_im, exV_ex, exOf_ex, exOf_nx, tyF, frK_fr, nxK_nx, lstLF, atomV, WO_map, WO_some, WO_none, WB_true, WB_false, WC_true, goes_nx, goes_ct, goes_bk, goes_rt, cut_nx, cut_bk, cut_ct, cut_rt, puts_nil, puts_cons, List.getElem?_cons_zero, List.getElem?_cons_succ, setO, frzO_eq, Option.map_some, putO, putC, List.set_cons_zero, List.set_cons_succ, mutAtD, only, dropM, mutL, PD.cnts, PD.cnt, Vl.hold, tyT, beq_self_eq_true, small_eq, lessL_eq, decide_true, decide_false, List.length_cons, List.length_nil, mkE, List.replicate_succ, List.replicate_zero, List.cons_append, List.nil_append, outE, retV, ioAll, ioIx, brIx, mutAt, updE, disj, nmOut, Vl.nm, D.nm, D.nmC, nms, Sl.mut, Sl.frz, D.atom, List.map_cons, List.map_nil, wipeE, unwipe, calm_em, calm_im, calm_none, List.all_cons, List.all_nil, Bool.and_true, Bool.true_and, Bool.and_self, Bool.or_true, Bool.or_self, Bool.true_or, Bool.false_or, Bool.or_false, Bool.not_true, Bool.not_false, Bool.and_false, Bool.false_and, List.isEmpty_nil, List.isEmpty_cons, List.nodup_cons, List.nodup_nil, List.not_mem_nil, not_false_eq_true, and_self, List.contains_nil, if_true, if_false, Bool.false_eq_true, ite_true, ite_false, rg1, rg2, rg3_10, revLD, rev2D, rev7D, addND, subND, seqL, seqZ, seqT, zipO, addD, subD, mulD, mulTD, divD, modD, powD, negD, ltD, leD, gtD, geD, lenD, absD, minD, maxD, PD.intD, ixD, isnD, appendD, reverseD, extendD, slD, setD, listD, tupleD, tupleBD, truD, at0, at1, at2, at3, at4, at5, at6, at7, sd0, sd1, sd2, sd3, ixN, Int.cast_ofNat_Int, Int.reduceEq, Int.reduceNe, Int.reduceLT, Int.reduceLE, Int.reduceNeg, Int.reduceAdd, Int.reduceSub, Int.reduceMul, Int.reducePow, Nat.reducePow, Int.reduceToNat, Int.reduceAbs, ne_eq, not_true_eq_false, Nat.zero_add, Nat.add_zero, Nat.reduceAdd, Nat.reduceSub, Nat.reduceLT, Nat.reduceLeDiff, Nat.reduceEqDiff, Nat.reduceMul, i63_0, i63_1, zipMO_lt, zipMO_tl, zipMO_ll, List.flatten_cons, List.flatten_nil, Nat.lt_irrefl, reduceCtorEq, Nat.zero_lt_succ, Nat.reduceSubDiff, Nat.sub_zero, Nat.sub_self, Bool.not_eq_true, Bool.not_eq_false, b__law_mix, b__law_pick, ce__law_names_1, cp__law_names_1, ce__law_names_2, cp__law_names_2, ce__law_names_3, cp__law_names_3, fl__law_names_4, b__law_names, ce__law_terrace_1, cp__law_terrace_1, ce__law_terrace_2, cp__law_terrace_2, fl__law_terrace_3, fl__law_terrace_4, b__law_terrace, fl__law_holders_1, fl__law_holders_2, fl__law_holders_3, b__law_holders, ce__law_loans_1, cp__law_loans_1, fl__law_loans_2, b__law_loans, ce__law_case_1, cp__law_case_1, b__law_case, b__law_left, ce_gate_row_1, cp_gate_row_1, b_gate_row, b_right_of, fl_holder_of_1, b_holder_of, fl_look_loans_1, b_look_loans, ce__law_bent_1, cp__law_bent_1, b__law_bent, b__law_caught, fl__law_first_bad_1, b__law_first_bad, b__law_place, ce_law_1, cp_law_1, fl_law_2, fl_law_3, b_law, sig__law_mix, sig__law_pick, sig__law_names, sig__law_terrace, sig__law_holders, sig__law_loans, sig__law_case, sig__law_left, sig_gate_row, sig_right_of, sig_holder_of, sig_look_loans, sig__law_bent, sig__law_caught, sig__law_first_bad, sig__law_place, sig_law, $xs,*])
local macro_rules | `(tactic| simp_arith) => `(tactic| simp_arith [W_cN])
theorem mix_sem (c k : Int) (h0 : 0 ≤ k) (h1 : k < 2 ^ 36) : ∃ r : Int, F__law_mix.sem [.int c, .int k] = some (.im (.int r), [.int c, .int k]) ∧ 0 ≤ r := by
  have a1 : s64 k = true := s64_small (by omega) (by omega)
  have a2 : s64 (7919 : Int) = true := by decide
  have a3 : s64 (48271 : Int) = true := by decide
  have b1 : 0 ≤ Int.fmod ((Int.fmod c 2147483629 + k * k * 7919 + 11) * 48271) 2147483647 := Int.fmod_nonneg_of_pos _ (by decide)
  have b2 : Int.fmod ((Int.fmod c 2147483629 + k * k * 7919 + 11) * 48271) 2147483647 < 2147483647 := Int.fmod_lt_of_pos _ (by decide)
  have a4 : s64 (Int.fmod ((Int.fmod c 2147483629 + k * k * 7919 + 11) * 48271) 2147483647) = true := s64_small (by omega) (by omega)
  suffices key : @WO _ (F__law_mix.sem [.int c, .int k]) ⟨fun p => ∃ r : Int, p = (.im (.int r), [.int c, .int k]) ∧ 0 ≤ r⟩ by
    obtain ⟨p, h, r, rfl, hr⟩ := key
    exact ⟨r, h, hr⟩
  rw [sem__law_mix]
  simp_arith [a1, a2, a3, a4]
  exact ⟨_, rfl, Int.fmod_nonneg_of_pos _ (by decide)⟩
/-- what is drawn from: n picks at most were made -/
def Lf (n : Nat) (l : D) : Prop := ∃ a b j : Int, l = .lst [.int a, .int b, .int j] ∧ 0 ≤ a ∧ 0 ≤ j ∧ j ≤ n
theorem Lf.mono {n m : Nat} {l : D} (h : Lf n l) (hn : n ≤ m) : Lf m l := by
  obtain ⟨a, b, j, e, h1, h2, h3⟩ := h
  exact ⟨a, b, j, e, h1, h2, by omega⟩
theorem pick_wp {n : Nat} {l : D} {m : Int} {K : Vl × List D → Prop} (h : Lf n l) (hn : n < 2 ^ 30) (hm : 0 < m) (hm2 : m < 2 ^ 30) (q : ∀ (r : Int) (l' : D), 0 ≤ r → r < m → Lf (n + 1) l' → K (.im (.int r), [l', .int m])) : @WO _ (F__law_pick.sem [l, .int m]) ⟨K⟩ := by
  obtain ⟨a, b, j, rfl, ha, hj, hj2⟩ := h
  have m0 : (m = 0) = False := by simp; omega
  have m1 : (m.natAbs < 1073741824) = True := by simp; omega
  rw [sem__law_pick]
  simp_arith [m0, m1]
  refine WB_cases' (fun h0 => ?_) (fun h0 => ?_)
  · simp_arith [m0, m1]
    refine q _ _ (Int.fmod_nonneg_of_pos a hm) (Int.fmod_lt_of_pos a hm) ?_
    exact ⟨_, _, _, rfl, Int.fdiv_nonneg ha (by omega), by omega, by omega⟩
  · obtain ⟨r1, e1, p1⟩ := mix_sem b (j + 1) (by omega) (by omega)
    obtain ⟨r2, e2, p2⟩ := mix_sem r1 (j + 1 + 64) (by omega) (by omega)
    simp_arith [m0, m1, e1, e2]
    refine q _ _ (Int.fmod_nonneg_of_pos _ hm) (Int.fmod_lt_of_pos _ hm) ?_
    exact ⟨_, _, _, rfl, ha, by omega, by omega⟩
theorem left_wp {ns : List Int} {k : Int} {K : Vl × List D → Prop} (h0 : 0 ≤ k) (h1 : k < 1000) (q : ∀ l, Lf 0 l → K (.fr l, [.sc ns, .int k])) : @WO _ (F__law_left.sem [.sc ns, .int k]) ⟨K⟩ := by
  have m1 : s64 (1000003 : Int) = true := by decide
  have m2 : s64 (1 : Int) = true := by decide
  have m3 : s64 (0 : Int) = true := by decide
  rw [sem__law_left]
  simp_arith
  refine WB_cases' (fun hc => ?_) (fun hc => ?_)
  · simp_arith
    have hc' : (0 : Int) < (ns.length : Int) := hc
    have hz : ((ns.length : Int) = 0) = False := eq_false (by omega)
    have f0 := Int.fmod_nonneg_of_pos k (b := (ns.length : Int)) (by omega)
    have f1 := Int.fmod_lt_of_pos k (b := (ns.length : Int)) (by omega)
    simp_arith [hz]
    refine WO_at f0 f1 fun j c _ hj => ?_
    simp_arith
    by_cases hb : (1000000000000000000 : Int) ≤ (if c < 0 then -c else c)
    · by_cases hk : k < (ns.length : Int)
      · simp_arith [hb, hk, m1, m2, Bool.or_true]
        exact q _ ⟨_, _, _, rfl, by split <;> omega, by decide, by decide⟩
      · simp_arith [hb, hk, m1, m3, Bool.or_true]
        exact q _ ⟨_, _, _, rfl, by simp, by decide, by decide⟩
    · simp_arith [hb, m1, m3, Bool.or_true]
      exact q _ ⟨_, _, _, rfl, by simp, by decide, by decide⟩
  · simp_arith [m1, m3, Bool.or_true]
    exact q _ ⟨_, _, _, rfl, by decide, by decide, by decide⟩
end L_k35
namespace L_k35
open PySem PySem.Spec PyProof.Rows L2 PD
local macro_rules | `(tactic| simp_arith [$xs,*]) => `(tactic| try simp only [↓W_eDisp, ↓W_qN, ↓W_qA, ↓W_qJs, ↓W_qJi, ↓W_rt, ↓W_bd, ↓W_eC, ↓W_eV, ↓W_cN, ↓W_cA, ↓W_eP, ↓W_eM, ↓W_eMf, ↓W_ckF, ↓W_ckT, ↓W_eU, ↓W_eUC, ↓W_eTup, ↓W_eLst, ↓W_eDk, ↓W_eDt, ↓W_mB, ↓W_mT, ↓W_mNot, ↓W_mAnd, ↓W_mOr, ↓W_eNot, ↓W_eAnd, ↓W_eOr, ↓W_eIf, ↓W_eTmp, ↓W_eTmpA, ↓W_cNn, ↓W_cAn, ↓W_eTmpL, ↓W_mTmp, ↓W_oN, ↓W_oS, ↓W_eSl, ↓W_eChain, ↓W_sNil, ↓W_sPass, ↓W_sBrk, ↓W_sCnt, ↓W_sRetN, ↓W_sSeq, ↓W_sExp, ↓W_sRet, ↓W_sIf, ↓W_sAsg, ↓W_gsN, ↓W_gsC, ↓W_gT, ↓W_gTl, ↓W_gS, ↓W_sRaise0, ↓W_sRaise1, ↓W_sTryK, ↓W_sCallX, ↓W_hb_im, ↓W_hb_fr, ↓W_hb_bo, ↓W_sPF, ↓W_sPF3, ↓W_sPF4, ↓W_gN_im, ↓W_gN_fr, ↓W_gN_bo, ↓W_frz_im, ↓W_frz_fr, ↓W_frz_bo, ↓W_frzs_nil, ↓W_frzs_cons, ↓W_frzA_nil, ↓W_frzA_t, ↓W_frzA_im, ↓W_frzA_bo, ↓W_callE, ↓W_eCallN, ↓W_eCallF, ↓WO_runF, ↓W_mR1, ↓W_mR2, ↓W_mR3, ↓W_eRev, ↓W_eRev2, ↓W_eRev7, ↓W_eFrz, ↓W_eGetZ, ↓W_eKf, ↓W_eLk, ↓W_mLst, ↓W_mLz, ↓W_mTup, ↓W_mEnum, ↓W_mEnumT, ↓W_mStr, ↓W_mDk, ↓W_mZip, ↓W_sFor, ↓W_sWhl, ↓W_eComp, ↓W_eTupB, ↓W_sAug, ↓W_sAugS, ↓W_eTmpD, ↓W_eTmpU, ↓W_sLkS, ↓W_mDi, ↓W_mZipM, ↓Rw_to4, ↓Rw_from4, ↓W_gT_Fld, ↓W_gT_Gt, ↓W_gT_Lt, ↓W_gT_bD, ↓W_gT_Dn, ↓W_gT_Rw, ↓Fld_i0, ↓Fld_i1, ↓Fld_i2, ↓Fld_i3, ↓Fld_i4, ↓Gt_i0, ↓Gt_i1, ↓Gt_i2, ↓Gt_i3, ↓Lt_i0, ↓Lt_i1, ↓Lt_i2, ↓bD_i0, ↓bD_i1, ↓Dn_i0, ↓Dn_i1, ↓Dn_i2, ↓Dn_i3, ↓Rw_i0, ↓Rw_i1, ↓Rw_i2, ↓Rw_i3, ↓Rw_i4, ↓Rw_i5, ↓Rw_i6, ↓Ter_i0, ↓Ter_i1, FnN_sig, Fk_sem, Fk_sig, exV_im, exV_ex, exOf_ex, exOf_nx, tyF, frK_fr, nxK_nx, lstLF, atomV, WO_map, WO_some, WO_none, WB_true, WB_false, WC_true, goes_nx, goes_ct, goes_bk, goes_rt, cut_nx, cut_bk, cut_ct, cut_rt, puts_nil, puts_cons, List.getElem?_cons_zero, List.getElem?_cons_succ, setO, frzO_eq, Option.map_some, putO, putC, List.set_cons_zero, List.set_cons_succ, mutAtD, only, dropM, mutL, PD.cnts, PD.cnt, Vl.hold, tyT, beq_self_eq_true, small_eq, lessL_eq, decide_true, decide_false, List.length_cons, List.length_nil, mkE, List.replicate_succ, List.replicate_zero, List.cons_append, List.nil_append, outE, retV, ioAll, ioIx, brIx, mutAt, updE, disj, nmOut, Vl.nm, D.nm, D.nmC, nms, Sl.mut, Sl.frz, D.atom, List.map_cons, List.map_nil, wipeE, unwipe, calm_em, calm_im, calm_none, List.all_cons, List.all_nil, Bool.and_true, Bool.true_and, Bool.and_self, Bool.or_true, Bool.or_self, Bool.true_or, Bool.false_or, Bool.or_false, Bool.not_true, Bool.not_false, Bool.and_false, Bool.false_and, List.isEmpty_nil, List.isEmpty_cons, List.nodup_cons, List.nodup_nil, List.not_mem_nil, not_false_eq_true, and_self, List.contains_nil, if_true, if_false, Bool.false_eq_true, ite_true, ite_false, rg1, rg2, rg3_10, revLD, rev2D, rev7D, addND, subND, seqL, seqZ, seqT, zipO, addD, subD, mulD, mulTD, divD, modD, powD, negD, ltD, leD, gtD, geD, lenD, absD, minD, maxD, PD.intD, ixD, isnD, appendD, reverseD, extendD, slD, setD, listD, tupleD, tupleBD, truD, at0, at1, at2, at3, at4, at5, at6, at7, sd0, sd1, sd2, sd3, ixN, Int.cast_ofNat_Int, Int.reduceEq, Int.reduceNe, Int.reduceLT, Int.reduceLE, Int.reduceNeg, Int.reduceAdd, Int.reduceSub, Int.reduceMul, Int.reducePow, Nat.reducePow, Int.reduceToNat, Int.reduceAbs, ne_eq, not_true_eq_false, Nat.zero_add, Nat.add_zero, Nat.reduceAdd, Nat.reduceSub, Nat.reduceLT, Nat.reduceLeDiff, Nat.reduceEqDiff, Nat.reduceMul, i63_0, i63_1, zipMO_lt, zipMO_tl, zipMO_ll, List.flatten_cons, List.flatten_nil, Nat.lt_irrefl, reduceCtorEq, Nat.zero_lt_succ, Nat.reduceSubDiff, Nat.sub_zero, Nat.sub_self, Bool.not_eq_true, Bool.not_eq_false, b__law_mix, b__law_pick, ce__law_names_1, cp__law_names_1, ce__law_names_2, cp__law_names_2, ce__law_names_3, cp__law_names_3, fl__law_names_4, b__law_names, ce__law_terrace_1, cp__law_terrace_1, ce__law_terrace_2, cp__law_terrace_2, fl__law_terrace_3, fl__law_terrace_4, b__law_terrace, fl__law_holders_1, fl__law_holders_2, fl__law_holders_3, b__law_holders, ce__law_loans_1, cp__law_loans_1, fl__law_loans_2, b__law_loans, ce__law_case_1, cp__law_case_1, b__law_case, b__law_left, ce_gate_row_1, cp_gate_row_1, b_gate_row, b_right_of, fl_holder_of_1, b_holder_of, fl_look_loans_1, b_look_loans, ce__law_bent_1, cp__law_bent_1, b__law_bent, b__law_caught, fl__law_first_bad_1, b__law_first_bad, b__law_place, ce_law_1, cp_law_1, fl_law_2, fl_law_3, b_law, sig__law_mix, sig__law_pick, sig__law_names, sig__law_terrace, sig__law_holders, sig__law_loans, sig__law_case, sig__law_left, sig_gate_row, sig_right_of, sig_holder_of, sig_look_loans, sig__law_bent, sig__law_caught, sig__law_first_bad, sig__law_place, sig_law, $xs,*])
local macro_rules | `(tactic| simp_arith) => `(tactic| simp_arith [W_cN])
def LS : D := .str (Str.ofString "abcdefghijklmnopqrstuvwxyz")
theorem letter_wp {r : Int} {K : Vl → Prop} (h0 : 0 ≤ r) (h1 : r < 26) (q : ∀ c ∈ PD.LT, K (.im (.str ⟨#[c]⟩))) : @WO _ (ixD [LS, .int r]) ⟨K⟩ := by
  obtain ⟨c, hc, hx⟩ := letter_at r h0 h1
  have e : ixD [LS, .int r] = if small (Str.ofString "abcdefghijklmnopqrstuvwxyz").length = true then (L2.atI (Str.ofString "abcdefghijklmnopqrstuvwxyz").cps.toList r).map (fun c => Vl.im (.str ⟨#[c]⟩)) else none := rfl
  rw [e, if_pos LT_small, hx, Option.map_some, WO_some]
  exact q c hc
theorem all_capp {cs : List Nat} {c : Nat} {P : Nat → Prop} (h : ∀ x ∈ cs, P x) (hc : P c) : ∀ x ∈ cs ++ [c], P x := fun x hx => by
  rcases List.mem_append.mp hx with hx | hx
  · exact h x hx
  · rw [List.mem_singleton.mp hx]
    exact hc
theorem sLS : (D.str "abcdefghijklmnopqrstuvwxyz") = LS := rfl
def PL (n : Nat) (e0 : PD.Env) (i : Nat) (ys : List D) (e : PD.Env) : Prop := ∃ (cs : List Nat) (l : D), ys = cs.map (fun c => D.str ⟨#[c]⟩) ∧ (∀ c ∈ cs, c ∈ PD.LT) ∧ cs.length = i ∧ Lf (n + i) l ∧ e = puts e0 [(0, .io 0 l)]
theorem signs_str {cs : List Nat} {m : Nat} (h : ∀ c ∈ cs, c ∈ PD.LT) (hl : cs.length ≤ m) : As m ⟨cs.toArray⟩ := ⟨by show cs.toArray.size ≤ m; simpa using hl, fun c hc => LT_low c (h c (by simpa using hc))⟩
/-- words of sheets -/
def WDt : Str := Str.ofString "field gate begin rain sun lend let shut wet dry even none owing fault plan lack bar"
def WD : List Str := Txt.split WDt (Str.ofString " ")
theorem WD_split : splitD [.str WDt, .str (Str.ofString " ")] = some (.fr (.lst (WD.map D.str))) := by
  have h : (!((Str.ofString " ").length == 0) && decide (WDt.length + 2 ≤ sizeLine) && (Txt.split WDt (Str.ofString " ")).all PyData.strOk) = true := by decide +kernel
  show (if (!((Str.ofString " ").length == 0) && decide (WDt.length + 2 ≤ sizeLine) && (Txt.split WDt (Str.ofString " ")).all PyData.strOk) = true then _ else none) = _
  rw [if_pos h]
  rfl
theorem WD_len : WD.length = 17 := by decide +kernel
theorem WD_as : ∀ x ∈ WD, As 6 x := fun x hx => by
  have h : (WD.all fun x => decide (x.length ≤ 6) && x.cps.toList.all fun c => decide (c < 128)) = true := by decide +kernel
  have := List.all_eq_true.mp h x hx
  simp only [Bool.and_eq_true, decide_eq_true_eq, List.all_eq_true] at this
  exact this
theorem letters_ch : chD (Str.ofString "abcdefghijklmnopqrstuvwxyz") = PD.LT.map fun c => D.str ⟨#[c]⟩ := rfl
theorem names_wp {n m : Nat} {l : D} {told : List Str} {K : Vl × List D → Prop} (h : Lf n l) (hn : n < 2 ^ 20) (hm : told.length + m ≤ 20) (nd : told.Nodup)
    (q : ∀ (xs : List Str) (l' : D), xs.length = m → (told ++ xs).Nodup → (∀ x ∈ xs, As 7 x) → Lf (n + 10 * m) l' → K (.fr (.lst (xs.map D.str)), [l', .int (m : Int), .lst (told.map D.str)])) : @WO _ (F__law_names.sem [l, .int (m : Int), .lst (told.map D.str)]) ⟨K⟩ := by
  rw [sem__law_names]
  have hsp : splitD [.str (Str.ofString "field gate begin rain sun lend let shut wet dry even none owing fault plan lack bar"), .str (Str.ofString " ")] = some (.fr (.lst (WD.map D.str))) := WD_split
  have hsm : PD.small (Str.ofString "abcdefghijklmnopqrstuvwxyz").length = true := LT_small
  simp_arith [b__law_names, hsp, sLS]
  refine WO_if (by exact in62_small (by omega) (by omega)) ?_
  simp_arith
  refine W_forE (fun e0 i e => ∃ xs l a b c d, xs.length = i ∧ (told ++ xs).Nodup ∧ (∀ x ∈ xs, As 7 x) ∧ Lf (n + 10 * i) l ∧ e = puts e0 [(0, .io 0 l), (4, .ow (.lst ((told ++ xs).map D.str))), (6, a), (7, b), (8, c), (9, d)]) ⟨[], l, .em, .em, .em, .em, rfl, by rw [List.append_nil]; exact nd, fun _ h => by simp at h, h, by rw [List.append_nil]; rfl⟩ ?_ ?_
  · rintro i d _ hd ⟨xs, l0, a, b, c, d', hl, hnd, hy, B0, rfl⟩
    obtain ⟨hi, rfl⟩ := rng_get hd
    rw [Int.toNat_natCast] at hi
    simp_arith
    rw [fb__law_names_4]
    refine W_cut3 (fun e0 e' => ∃ x l a, As 6 x ∧ Lf (n + 10 * i + 10) l ∧ e' = puts e0 [(0, .io 0 l), (7, a), (8, .im (.str x))]) ?_ ?_
    rotate_left
    · rintro _ ⟨x, l1, a', hx, B1, rfl⟩
      have hfl : (told ++ xs).length < 26 := by rw [List.length_append]; omega
      obtain ⟨y, r, hf, hyc, hyn⟩ := cand_free x hfl
      have hx5 := hx.cut none (some 5)
      have hx5l := hx5.len
      simp_arith [LS]
      refine W_comp_mapA (fun c : Nat => D.str ⟨#[c]⟩) (fun c => .str (stem5 x ++ ⟨#[c]⟩)) (fun c hc => ?_) ?_
      · have hc1 : (⟨#[c]⟩ : Str).length = 1 := rfl
        have hxl := hx.len
        have e5 : cutS x none (some 5) = stem5 x := rfl
        have hx5l : (stem5 x).length ≤ 6 := hx5l
        simp_arith [ce__law_names_2]
        refine WO_ifd (by omega) ?_
        simp_arith [e5, hc1]
        refine WO_ifd (by omega) ?_
        simp_arith
      have hll : ((Str.ofString "abcdefghijklmnopqrstuvwxyz").cps.toList.map fun c => D.str (stem5 x ++ ⟨#[c]⟩)).length = 26 := by
        rw [List.length_map]
        exact LT_len
      have hcd : [D.str x] ++ (Str.ofString "abcdefghijklmnopqrstuvwxyz").cps.toList.map (fun c => D.str (stem5 x ++ ⟨#[c]⟩)) = (cand x).map D.str := (cand_d x).symm
      rw [hll]
      refine WC_mk rfl ?_
      generalize hg : (Str.ofString "abcdefghijklmnopqrstuvwxyz").cps.toList.map (fun c => D.str (stem5 x ++ ⟨#[c]⟩)) = gg at hll hcd ⊢
      have hcd : D.str x :: gg = (cand x).map D.str := hcd
      simp_arith [hll]
      rw [hcd]
      refine W_comp_fltA D.str (fun y => !decide (y ∈ told ++ xs)) (fun y => .str y) (fun y hy => ?_) ?_
      · by_cases hin : y ∈ told ++ xs
        · simp_arith [notIn_strs, hin]
        · simp_arith [notIn_strs, hin]
      rw [hf, List.map_cons]
      have hrl : r.length ≤ 26 := by
        have h1 := List.length_filter_le (fun y => !decide (y ∈ told ++ xs)) (cand x)
        rw [hf, List.length_cons] at h1
        have h2 : (cand x).length = 27 := by
          rw [cand, List.length_cons, List.length_map, LT_len]
        omega
      have hfl2 : (told ++ xs).length ≤ 26 := by omega
      simp_arith [List.length_map]
      refine WC_dec (by omega) ?_
      simp_arith [List.length_map]
      refine WO_ifd (by omega) ?_
      have happ : (told ++ xs).map D.str ++ [D.str y] = (told ++ (xs ++ [y])).map D.str := by
        rw [← List.append_assoc, List.map_append (l₁ := told ++ xs)]
        rfl
      simp_arith [happ]
      refine ⟨xs ++ [y], l1, _, _, _, _, by rw [List.length_append, hl]; rfl, ?_, fun z hz => ?_, B1.mono (by omega), rfl⟩
      · rw [← List.append_assoc]
        refine List.nodup_append.mpr ⟨hnd, by simp, fun p hp z hz e => ?_⟩
        rw [List.mem_singleton.mp hz] at e
        exact hyn (e ▸ hp)
      · rcases List.mem_append.mp hz with hz | hz
        · exact hy z hz
        · rw [List.mem_singleton.mp hz]
          exact cand_as hx (by omega) y hyc
    simp_arith
    refine pick_wp (by assumption) (by omega) (by omega) (by omega) fun r1 l1 r1a r1b B1 => ?_
    simp_arith
    refine WO_atP (P := Has (.int 2 6)) ?_ (by omega) (by simp; omega) ?_
    · iterate 2 refine all_cons (Has.mkI (by omega) (by omega)) ?_
      exact all_nil
    rintro _ ⟨sz, rfl, sz0, sz1⟩
    simp_arith
    refine pick_wp (by assumption) (by omega) (by omega) (by omega) fun r2 l2 r2a r2b B2 => ?_
    simp_arith
    refine WO_if (by exact in62_small (by omega) (by omega)) ?_
    simp_arith
    refine W_compE (PL (n + 10 * i + 2)) ⟨[], l2, rfl, fun _ h => by simp at h, rfl, B2, rfl⟩ ?_ ?_
    · rintro j d ys e' hd ⟨cs, l3, rfl, hcs, hcl, B3, rfl⟩
      have hj := (rng_get hd).1
      simp_arith [ce__law_names_3]
      refine pick_wp (by assumption) (by omega) (by omega) (by omega) fun r3 l4 r3a r3b B4 => ?_
      simp_arith
      refine letter_wp (by omega) (by omega) fun c hc => ?_
      simp_arith
      exact ⟨cs ++ [c], l4, by simp, all_capp hcs hc, by simp [hcl], B4.mono (by omega), rfl⟩
    rintro ys e' ⟨cs, l3, rfl, hcs, hcl, B3, rfl⟩
    rw [rng_len] at hcl B3
    have j1 := join_sem cs (by omega) fun c hc => LT_low c (hcs c hc)
    have hcs := signs_str hcs (m := 6) (by omega)
    generalize (⟨cs.toArray⟩ : Str) = st at *
    simp_arith [List.length_map]
    refine WC_dec (by omega) ?_
    simp_arith [j1]
    refine pick_wp (by assumption) (by omega) (by omega) (by omega) fun r4 l4 r4a r4b B4 => ?_
    simp_arith [eqD_int]
    refine WB_cases' (fun _ => ?_) (fun _ => ?_)
    · simp_arith
      refine pick_wp (by assumption) (by omega) (by omega) (by omega) fun r5 l5 r5a r5b B5 => ?_
      simp_arith
      refine WO_atA D.str (by omega) (by rw [WD_len]; omega) fun j w _ hw => ?_
      simp_arith
      exact ⟨w, l5, _, WD_as w (List.mem_of_getElem? hw), B5.mono (by omega), rfl⟩
    · simp_arith
      exact ⟨st, l4, _, hcs, B4.mono (by omega), rfl⟩
  · rintro _ ⟨xs, l0, a, b, c, d', hl, hnd, hy, B0, rfl⟩
    rw [rng_len, Int.toNat_natCast] at hl B0
    have hdr : cutD ((told ++ xs).map D.str) (some ((told.length : Nat) : Int)) none = xs.map D.str := by
      rw [cut_map, cut_drop, List.drop_left]
    simp_arith [List.length_map, hdr]
    exact q xs _ hl hnd hy B0
end L_k35
namespace L_k35
open PySem PySem.Spec PyProof.Rows L2 PD
local macro_rules | `(tactic| simp_arith [$xs,*]) => `(tactic| try simp only [↓W_eDisp, ↓W_qN, ↓W_qA, ↓W_qJs, ↓W_qJi, ↓W_rt, ↓W_bd, ↓W_eC, ↓W_eV, ↓W_cN, ↓W_cA, ↓W_eP, ↓W_eM, ↓W_eMf, ↓W_ckF, ↓W_ckT, ↓W_eU, ↓W_eUC, ↓W_eTup, ↓W_eLst, ↓W_eDk, ↓W_eDt, ↓W_mB, ↓W_mT, ↓W_mNot, ↓W_mAnd, ↓W_mOr, ↓W_eNot, ↓W_eAnd, ↓W_eOr, ↓W_eIf, ↓W_eTmp, ↓W_eTmpA, ↓W_cNn, ↓W_cAn, ↓W_eTmpL, ↓W_mTmp, ↓W_oN, ↓W_oS, ↓W_eSl, ↓W_eChain, ↓W_sNil, ↓W_sPass, ↓W_sBrk, ↓W_sCnt, ↓W_sRetN, ↓W_sSeq, ↓W_sExp, ↓W_sRet, ↓W_sIf, ↓W_sAsg, ↓W_gsN, ↓W_gsC, ↓W_gT, ↓W_gTl, ↓W_gS, ↓W_sRaise0, ↓W_sRaise1, ↓W_sTryK, ↓W_sCallX, ↓W_hb_im, ↓W_hb_fr, ↓W_hb_bo, ↓W_sPF, ↓W_sPF3, ↓W_sPF4, ↓W_gN_im, ↓W_gN_fr, ↓W_gN_bo, ↓W_frz_im, ↓W_frz_fr, ↓W_frz_bo, ↓W_frzs_nil, ↓W_frzs_cons, ↓W_frzA_nil, ↓W_frzA_t, ↓W_frzA_im, ↓W_frzA_bo, ↓W_callE, ↓W_eCallN, ↓W_eCallF, ↓WO_runF, ↓W_mR1, ↓W_mR2, ↓W_mR3, ↓W_eRev, ↓W_eRev2, ↓W_eRev7, ↓W_eFrz, ↓W_eGetZ, ↓W_eKf, ↓W_eLk, ↓W_mLst, ↓W_mLz, ↓W_mTup, ↓W_mEnum, ↓W_mEnumT, ↓W_mStr, ↓W_mDk, ↓W_mZip, ↓W_sFor, ↓W_sWhl, ↓W_eComp, ↓W_eTupB, ↓W_sAug, ↓W_sAugS, ↓W_eTmpD, ↓W_eTmpU, ↓W_sLkS, ↓W_mDi, ↓W_mZipM, ↓Rw_to4, ↓Rw_from4, ↓W_gT_Fld, ↓W_gT_Gt, ↓W_gT_Lt, ↓W_gT_bD, ↓W_gT_Dn, ↓W_gT_Rw, ↓Fld_i0, ↓Fld_i1, ↓Fld_i2, ↓Fld_i3, ↓Fld_i4, ↓Gt_i0, ↓Gt_i1, ↓Gt_i2, ↓Gt_i3, ↓Lt_i0, ↓Lt_i1, ↓Lt_i2, ↓bD_i0, ↓bD_i1, ↓Dn_i0, ↓Dn_i1, ↓Dn_i2, ↓Dn_i3, ↓Rw_i0, ↓Rw_i1, ↓Rw_i2, ↓Rw_i3, ↓Rw_i4, ↓Rw_i5, ↓Rw_i6, ↓Ter_i0, ↓Ter_i1, FnN_sig, Fk_sem, Fk_sig, exV_im, exV_ex, exOf_ex, exOf_nx, tyF, frK_fr, nxK_nx, lstLF, atomV, WO_map, WO_some, WO_none, WB_true, WB_false, WC_true, goes_nx, goes_ct, goes_bk, goes_rt, cut_nx, cut_bk, cut_ct, cut_rt, puts_nil, puts_cons, List.getElem?_cons_zero, List.getElem?_cons_succ, setO, frzO_eq, Option.map_some, putO, putC, List.set_cons_zero, List.set_cons_succ, mutAtD, only, dropM, mutL, PD.cnts, PD.cnt, Vl.hold, tyT, beq_self_eq_true, small_eq, lessL_eq, decide_true, decide_false, List.length_cons, List.length_nil, mkE, List.replicate_succ, List.replicate_zero, List.cons_append, List.nil_append, outE, retV, ioAll, ioIx, brIx, mutAt, updE, disj, nmOut, Vl.nm, D.nm, D.nmC, nms, Sl.mut, Sl.frz, D.atom, List.map_cons, List.map_nil, wipeE, unwipe, calm_em, calm_im, calm_none, List.all_cons, List.all_nil, Bool.and_true, Bool.true_and, Bool.and_self, Bool.or_true, Bool.or_self, Bool.true_or, Bool.false_or, Bool.or_false, Bool.not_true, Bool.not_false, Bool.and_false, Bool.false_and, List.isEmpty_nil, List.isEmpty_cons, List.nodup_cons, List.nodup_nil, List.not_mem_nil, not_false_eq_true, and_self, List.contains_nil, if_true, if_false, Bool.false_eq_true, ite_true, ite_false, rg1, rg2, rg3_10, revLD, rev2D, rev7D, addND, subND, seqL, seqZ, seqT, zipO, addD, subD, mulD, mulTD, divD, modD, powD, negD, ltD, leD, gtD, geD, lenD, absD, minD, maxD, PD.intD, ixD, isnD, appendD, reverseD, extendD, slD, setD, listD, tupleD, tupleBD, truD, at0, at1, at2, at3, at4, at5, at6, at7, sd0, sd1, sd2, sd3, ixN, Int.cast_ofNat_Int, Int.reduceEq, Int.reduceNe, Int.reduceLT, Int.reduceLE, Int.reduceNeg, Int.reduceAdd, Int.reduceSub, Int.reduceMul, Int.reducePow, Nat.reducePow, Int.reduceToNat, Int.reduceAbs, ne_eq, not_true_eq_false, Nat.zero_add, Nat.add_zero, Nat.reduceAdd, Nat.reduceSub, Nat.reduceLT, Nat.reduceLeDiff, Nat.reduceEqDiff, Nat.reduceMul, i63_0, i63_1, zipMO_lt, zipMO_tl, zipMO_ll, List.flatten_cons, List.flatten_nil, Nat.lt_irrefl, reduceCtorEq, Nat.zero_lt_succ, Nat.reduceSubDiff, Nat.sub_zero, Nat.sub_self, Bool.not_eq_true, Bool.not_eq_false, sig__law_pick, sig__law_mix, sig__law_names, $xs,*])
local macro_rules | `(tactic| simp_arith) => `(tactic| simp_arith [W_cN])
structure FSh (f : Fld) : Prop where
  nm : As 8 f.nm
  ow : As 8 f.ow
  bl : As 8 f.bl
  d0 : 1 ≤ f.dy
  d1 : f.dy ≤ 999
  s0 : 0 ≤ f.so
  s1 : f.so ≤ 99
structure GSh (ow : List Str) (g : Gt) : Prop where
  nm : As 8 g.nm
  m0 : 1 ≤ g.mo
  m1 : g.mo ≤ 30
  r0 : 1 ≤ g.ri.length
  r1 : g.ri.length ≤ 12
  r2 : ∀ x ∈ g.ri, x ∈ ow
  a1 : g.al.length ≤ 9
  a2 : ∀ x ∈ g.al, As 8 x
structure TerrL (ow : List Str) (fl : List Fld) (gs : List Gt) : Prop where
  f1 : 1 ≤ fl.length
  f8 : fl.length ≤ 8
  fsh : ∀ f ∈ fl, FSh f
  g1 : 1 ≤ gs.length
  g4 : gs.length ≤ 4
  gsh : ∀ g ∈ gs, GSh ow g
  nd : (gs.map Gt.nm).Nodup
  fow : ∀ f ∈ fl, f.ow ∈ ow
  fnd : (fl.map Fld.nm).Nodup
theorem fsh_has {fl : List Fld} (h : ∀ f ∈ fl, FSh f) : ∀ d ∈ fl.map Fld.d, Has FieldT d := fun d hd => by
  obtain ⟨f, hf, rfl⟩ := List.mem_map.mp hd
  have k := h f hf
  exact Has.mkT (.cons (Has.mkS k.nm) (.cons (Has.mkS k.ow) (.cons (Has.mkS k.bl) (.cons (Has.mkI k.d0 k.d1) (.cons (Has.mkI k.s0 k.s1) .nil)))))
theorem gsh_has {ow : List Str} {gs : List Gt} (ho : ∀ x ∈ ow, As 8 x) (h : ∀ g ∈ gs, GSh ow g) : ∀ d ∈ gs.map Gt.d, Has GateT d := fun d hd => by
  obtain ⟨g, hg, rfl⟩ := List.mem_map.mp hd
  have k := h g hg
  exact Has.mkT (.cons (Has.mkS k.nm) (.cons (Has.mkI k.m0 (by have := k.m1; omega)) (.cons ⟨_, rfl, by rw [List.length_map]; exact k.r1, fun d hd => by
    obtain ⟨x, hx, rfl⟩ := List.mem_map.mp hd
    exact Has.mkS (ho x (k.r2 x hx))⟩ (.cons ⟨_, rfl, by rw [List.length_map]; exact k.a1, fun d hd => by
    obtain ⟨x, hx, rfl⟩ := List.mem_map.mp hd
    exact Has.mkS (k.a2 x hx)⟩ .nil))))
theorem TerrL.perm {ow : List Str} {fl fl' : List Fld} {gs gs' : List Gt} (h : TerrL ow fl gs) (p : fl'.Perm fl) (q : gs'.Perm gs) : TerrL ow fl' gs' :=
  ⟨by rw [p.length_eq]; exact h.f1, by rw [p.length_eq]; exact h.f8, fun f hf => h.fsh f (p.mem_iff.mp hf), by rw [q.length_eq]; exact h.g1, by rw [q.length_eq]; exact h.g4, fun g hg => h.gsh g (q.mem_iff.mp hg), (q.map _).nodup_iff.mpr h.nd, fun f hf => h.fow f (p.mem_iff.mp hf), (p.map _).nodup_iff.mpr h.fnd⟩
theorem terrace_wp {n : Nat} {l : D} {ow : List Str} {b : Bool} {K : Vl × List D → Prop} (h : Lf n l) (hn : n < 2 ^ 18) (ho1 : 1 ≤ ow.length) (ho2 : ow.length ≤ 20) (ho : ∀ x ∈ ow, As 8 x)
    (q : ∀ (fl : List Fld) (gs : List Gt) (l' : D), TerrL ow fl gs → RisG gs → Lf (n + 400) l' → K (.im (terD fl gs), [l', .lst (ow.map D.str), .bl b])) : @WO _ (F__law_terrace.sem [l, .lst (ow.map D.str), .bl b]) ⟨K⟩ := by
  rw [sem__law_terrace]
  simp_arith
  rw [b__law_terrace]
  refine W_cut2 (fun e0 e' => ∃ (m g : Nat) (l : D), 1 ≤ m ∧ m ≤ 8 ∧ 1 ≤ g ∧ g ≤ 4 ∧ Lf (n + 2) l ∧ e' = puts e0 [(0, .io 0 l), (3, .im (.int (m : Int))), (4, .im (.int (g : Int)))]) ?_ ?_
  · simp_arith
    refine pick_wp (by assumption) (by omega) (by omega) (by omega) fun r1 l1 r1a r1b B1 => ?_
    simp_arith
    refine pick_wp (by assumption) (by omega) (by omega) (by omega) fun r2 l2 r2a r2b B2 => ?_
    cases b
    · simp_arith
      exact ⟨(1 + r1).toNat, (1 + r2).toNat, l2, by omega, by omega, by omega, by omega, B2, by rw [Int.toNat_of_nonneg (by omega), Int.toNat_of_nonneg (by omega)]⟩
    · simp_arith
      exact ⟨8, 4, l2, by omega, by omega, by omega, by omega, B2, rfl⟩
  rintro _ ⟨m, g, l0, m1, m8, g1, g4, B0, rfl⟩
  have enil : ([] : List D) = ([] : List Str).map D.str := rfl
  simp_arith
  refine names_wp (told := []) (m := m) B0 (by omega) (by simp; omega) List.nodup_nil fun ns l1 hnl hnd hns B1 => ?_
  simp_arith
  refine pick_wp (by assumption) (by omega) (by omega) (by omega) fun r1 l2 r1a r1b B2 => ?_
  simp_arith
  refine pick_wp (by assumption) (by omega) (by omega) (by omega) fun r2 l3 r2a r2b B3 => ?_
  simp_arith [fl__law_terrace_4]
  have hnl8 : ns.length ≤ 8 := by omega
  refine W_forE (fun e0 i e => ∃ l fl a b c d, Cm a ∧ fl.length = i ∧ (∀ f ∈ fl, FSh f) ∧ (fl.map Fld.nm = ns.take i ∧ ∀ f ∈ fl, f.ow ∈ ow) ∧ Lf (n + 84 + 4 * i) l ∧ e = puts e0 [(0, .io 0 l), (6, .ow (.lst (fl.map Fld.d))), (8, a), (9, b), (11, c), (12, d)]) ⟨l3, [], _, _, _, _, .em, rfl, fun _ h => by simp at h, ⟨rfl, fun _ h => by simp at h⟩, B3.mono (by omega), rfl⟩ ?_ ?_
  · rintro i d _ hd ⟨l4, fl, a, b', c, d', ca, hfl, hfs, ⟨hfn, hfo⟩, B4, rfl⟩
    obtain ⟨x, hx', rfl⟩ := enum_get hd
    obtain ⟨nm, hnm, hnmm, rfl⟩ := at_map hx'
    have hil := lt_at hnm
    have hcut : cutD (ns.map D.str) none (some (i : Int)) = (ns.take i).map D.str := by rw [cut_map, cut_take]
    have hbl : [D.str ""] ++ (ns.take i).map D.str = (noS :: ns.take i).map D.str := rfl
    have hnlt : (ns.take i).length = i := by rw [List.length_take]; omega
    simp_arith [fb__law_terrace_4, List.length_map]
    refine pick_wp (by assumption) (by omega) (by omega) (by omega) fun r3 l5 r3a r3b B5 => ?_
    simp_arith
    refine WO_atA D.str (by omega) (by omega) fun j o _ ho' => ?_
    simp_arith [hcut, List.length_map]
    refine WO_ifd (by omega) ?_
    simp_arith [hbl]
    refine pick_wp (by assumption) (by omega) (by omega) (by omega) fun r4 l6 r4a r4b B6 => ?_
    simp_arith [hbl]
    have hbl2 : D.str "" :: (ns.take i).map D.str = (noS :: ns.take i).map D.str := rfl
    rw [hbl2]
    refine WO_atA D.str (by omega) (by rw [List.length_cons]; omega) fun j2 bl _ hbl' => ?_
    have hblA : As 8 bl := by
      rcases List.mem_cons.mp (List.mem_of_getElem? hbl') with rfl | hm
      · exact As.empty
      · exact (hns bl (List.mem_of_mem_take hm)).mono (by omega)
    simp_arith
    refine pick_wp (by assumption) (by omega) (by omega) (by omega) fun r5 l7 r5a r5b B7 => ?_
    simp_arith
    refine pick_wp (by assumption) (by omega) (by omega) (by omega) fun r6 l8 r6a r6b B8 => ?_
    simp_arith [List.length_map]
    refine WO_ifd (by omega) ?_
    have em : fl.map Fld.d ++ [D.tup [.str nm, .str o, .str bl, .int (1 + r5), .int r6]] = (fl ++ [(⟨nm, o, bl, 1 + r5, r6⟩ : Fld)]).map Fld.d := by
      rw [List.map_append]
      rfl
    simp_arith [em]
    refine ⟨l8, fl ++ [⟨nm, o, bl, 1 + r5, r6⟩], _, _, _, _, .im, by rw [List.length_append, hfl]; rfl, fun f hf => ?_, ⟨by rw [List.map_append, hfn, take_snoc hnm]; rfl, fun f hf => (List.mem_append.mp hf).elim (hfo f) fun h => by rw [List.mem_singleton.mp h]; exact List.mem_of_getElem? ho'⟩, B8.mono (by omega), rfl⟩
    rcases List.mem_append.mp hf with hf | hf
    · exact hfs f hf
    · rw [List.mem_singleton.mp hf]
      exact ⟨(hns nm hnmm).mono (by omega), ho o (List.mem_of_getElem? ho'), hblA, by show 1 ≤ 1 + r5; omega, by show 1 + r5 ≤ 999; omega, by assumption, by show r6 ≤ 99; omega⟩
  rintro _ ⟨l4, fl, a, b', c, d', ca, hfl, hfs, ⟨hfn, hfo⟩, B4, rfl⟩
  rw [enum_len, List.length_map] at hfl B4 hfn
  rw [List.take_of_length_le (Nat.le_refl _)] at hfn
  simp_arith [fl__law_terrace_3]
  refine names_wp (told := []) (m := g) B4 (by omega) (by simp; omega) List.nodup_nil fun gn l5 hgl hgd hgn B5 => ?_
  simp_arith
  refine W_forE (fun e0 i e => ∃ l gs a b c, gs.length = i ∧ gs.map Gt.nm = gn.take i ∧ (∀ g ∈ gs, GSh ow g) ∧ Lf (n + 160 + 25 * i) l ∧ e = puts e0 [(0, .io 0 l), (9, a), (10, .ow (.lst (gs.map Gt.d))), (13, b), (14, c)]) ⟨l5, [], _, _, _, rfl, rfl, fun _ h => by simp at h, B5.mono (by omega), rfl⟩ ?_ ?_
  · rintro i d _ hd ⟨l6, gs, a', b'', c', h1, h2, h3, B6, rfl⟩
    obtain ⟨nm, hnm, hnmm, rfl⟩ := at_map hd
    have hil := lt_at hnm
    simp_arith
    rw [fb__law_terrace_3]
    refine W_cut1 (fun e0 e' => ∃ (ri : List Str) (l : D), 1 ≤ ri.length ∧ ri.length ≤ 12 ∧ (∀ x ∈ ri, x ∈ ow) ∧ Lf (n + 160 + 25 * i + 13) l ∧ e' = puts e0 [(0, .io 0 l), (13, .ow (.lst (ri.map D.str)))]) ?_ ?_
    · cases b
      all_goals
        simp_arith [cp__law_terrace_2]
        first
        | (refine pick_wp (by assumption) (by omega) (by omega) (by omega) fun r3 l7 r3a r3b B7 => ?_
           simp_arith)
        | skip
        refine WO_if (by exact in62_small (by omega) (by omega)) ?_
        simp_arith [ca.calm]
        refine W_compE (fun e0 j ys e => ∃ l ri, ys = ri.map D.str ∧ ri.length = j ∧ (∀ x ∈ ri, x ∈ ow) ∧ Lf (n + 160 + 25 * i + 1 + j) l ∧ e = puts e0 [(0, .io 0 l)]) ⟨_, [], rfl, rfl, fun _ h => by simp at h, by first | exact B7 | exact B6.mono (by omega), rfl⟩ ?_ ?_
        · rintro j d ys _ hd ⟨l8, ri, rfl, k1, k2, B8, rfl⟩
          obtain ⟨hj, rfl⟩ := rng_get hd
          simp_arith [ce__law_terrace_2, List.length_map]
          refine pick_wp (by assumption) (by omega) (by omega) (by omega) fun r4 l9 r4a r4b B9 => ?_
          simp_arith
          refine WO_atA D.str (by omega) (by omega) fun j2 o _ ho' => ?_
          simp_arith
          exact ⟨l9, ri ++ [o], by rw [List.map_append]; rfl, by rw [List.length_append, k1]; rfl, fun x hx => by
            rcases List.mem_append.mp hx with hx | hx
            · exact k2 x hx
            · rw [List.mem_singleton.mp hx]
              exact List.mem_of_getElem? ho', B9.mono (by omega), by trivial⟩
        rintro ys _ ⟨l8, ri, rfl, k1, k2, B8, rfl⟩
        rw [rng_len] at k1 B8
        simp_arith [List.length_map]
        refine WC_dec (by omega) ?_
        simp_arith
        exact ⟨ri, l8, by omega, by omega, k2, B8.mono (by omega), rfl⟩
    rintro _ ⟨ri, l7, ri1, ri2, ri3, B7, rfl⟩
    simp_arith [cp__law_terrace_1]
    refine pick_wp (by assumption) (by omega) (by omega) (by omega) fun r4 l8 r4a r4b B8 => ?_
    simp_arith
    refine WO_if (by exact in62_small (by omega) (by omega)) ?_
    simp_arith [ca.calm]
    refine W_compE (fun e0 j ys e => ∃ l ss, ys = ss.map D.str ∧ ss.length = j ∧ (∀ x ∈ ss, x ∈ ns) ∧ Lf (n + 160 + 25 * i + 14 + j) l ∧ e = puts e0 [(0, .io 0 l)]) ⟨_, [], rfl, rfl, fun _ h => by simp at h, B8.mono (by omega), rfl⟩ ?_ ?_
    · rintro j d ys _ hd ⟨l9, ss, rfl, k1, k2, B9, rfl⟩
      obtain ⟨hj, rfl⟩ := rng_get hd
      simp_arith [ce__law_terrace_1]
      refine pick_wp (by assumption) (by omega) (by omega) (by omega) fun r5 l10 r5a r5b B10 => ?_
      simp_arith
      refine WO_atA D.str (by omega) (by omega) fun j2 o _ ho' => ?_
      simp_arith
      exact ⟨l10, ss ++ [o], by rw [List.map_append]; rfl, by rw [List.length_append, k1]; rfl, fun x hx => by
        rcases List.mem_append.mp hx with hx | hx
        · exact k2 x hx
        · rw [List.mem_singleton.mp hx]
          exact List.mem_of_getElem? ho', B10.mono (by omega), by trivial⟩
    rintro ys _ ⟨l9, ss, rfl, k1, k2, B9, rfl⟩
    rw [rng_len] at k1 B9
    have hst := sortSetD_strs (ss := ss) (by omega)
    obtain ⟨al, pal, eal⟩ := sortL_map D.str (ddS ss)
    rw [eal] at hst
    have hal : al.length ≤ 8 := by
      rw [pal.length_eq]
      have := ddS_le ss
      omega
    have halm : ∀ x ∈ al, As 8 x := fun x hx => (hns x (k2 x (ddS_mem.mp (pal.mem_iff.mp hx)))).mono (by omega)
    simp_arith [List.length_map]
    refine WC_dec (by omega) ?_
    simp_arith [hst]
    refine pick_wp (by assumption) (by omega) (by omega) (by omega) fun r6 l10 r6a r6b B10 => ?_
    simp_arith
    refine WO_atP (P := Has (.int 1 30)) ?_ (by omega) (by simp; omega) ?_
    · refine all_cons (Has.mkI (by omega) (by omega)) (all_cons (Has.mkI (by omega) (by omega)) (all_cons (Has.mkI (by omega) (by omega)) all_nil))
    rintro _ ⟨mo, rfl, mo0, mo1⟩
    simp_arith [List.length_map]
    refine WO_ifd (by omega) ?_
    have em : gs.map Gt.d ++ [D.tup [.str nm, .int mo, .tup (ri.map D.str), .tup (al.map D.str)]] = (gs ++ [(⟨nm, mo, ri, al⟩ : Gt)]).map Gt.d := by
      rw [List.map_append]
      rfl
    simp_arith [em]
    refine ⟨l10, gs ++ [⟨nm, mo, ri, al⟩], _, _, _, by rw [List.length_append, h1]; rfl, ?_, fun x hx => ?_, B10.mono (by omega), rfl⟩
    · rw [List.map_append, h2, take_snoc hnm]
      rfl
    · rcases List.mem_append.mp hx with hx | hx
      · exact h3 x hx
      · rw [List.mem_singleton.mp hx]
        exact ⟨(hgn nm hnmm).mono (by omega), mo0, mo1, ri1, ri2, ri3, by show al.length ≤ 9; omega, halm⟩
  rintro _ ⟨l6, gs, a', b'', c', h1, h2, h3, B6, rfl⟩
  rw [List.length_map] at h1 h2 B6
  rw [List.take_of_length_le (Nat.le_refl _)] at h2
  have hgnd : gn.Nodup := hgd
  have tk : TerrL ow fl gs := ⟨by omega, by omega, hfs, by omega, by omega, h3, by rw [h2]; exact hgnd, hfo, by rw [hfn]; exact hnd⟩
  have hs1 := sort_ok (fsh_has tk.fsh) (by decide) (by decide) (by decide) (by rw [List.length_map]; omega)
  have hs2 := sort_ok (gsh_has ho tk.gsh) (by decide) (by decide) (by decide) (by rw [List.length_map]; omega)
  obtain ⟨fl', p1, e1⟩ := sortL_map Fld.d fl
  obtain ⟨gs', p2, e2⟩ := sortL_map Gt.d gs
  simp_arith [hs1, hs2, e1, e2]
  exact q fl' gs' _ (tk.perm p1 p2) (sort_gates e2) (B6.mono (by omega))
end L_k35
namespace L_k35
open PySem PySem.Spec PyProof.Rows L2 PD
local macro_rules | `(tactic| simp_arith [$xs,*]) => `(tactic| try simp only [↓W_eDisp, ↓W_qN, ↓W_qA, ↓W_qJs, ↓W_qJi, ↓W_rt, ↓W_bd, ↓W_eC, ↓W_eV, ↓W_cN, ↓W_cA, ↓W_eP, ↓W_eM, ↓W_eMf, ↓W_ckF, ↓W_ckT, ↓W_eU, ↓W_eUC, ↓W_eTup, ↓W_eLst, ↓W_eDk, ↓W_eDt, ↓W_mB, ↓W_mT, ↓W_mNot, ↓W_mAnd, ↓W_mOr, ↓W_eNot, ↓W_eAnd, ↓W_eOr, ↓W_eIf, ↓W_eTmp, ↓W_eTmpA, ↓W_cNn, ↓W_cAn, ↓W_eTmpL, ↓W_mTmp, ↓W_oN, ↓W_oS, ↓W_eSl, ↓W_eChain, ↓W_sNil, ↓W_sPass, ↓W_sBrk, ↓W_sCnt, ↓W_sRetN, ↓W_sSeq, ↓W_sExp, ↓W_sRet, ↓W_sIf, ↓W_sAsg, ↓W_gsN, ↓W_gsC, ↓W_gT, ↓W_gTl, ↓W_gS, ↓W_sRaise0, ↓W_sRaise1, ↓W_sTryK, ↓W_sCallX, ↓W_hb_im, ↓W_hb_fr, ↓W_hb_bo, ↓W_sPF, ↓W_sPF3, ↓W_sPF4, ↓W_gN_im, ↓W_gN_fr, ↓W_gN_bo, ↓W_frz_im, ↓W_frz_fr, ↓W_frz_bo, ↓W_frzs_nil, ↓W_frzs_cons, ↓W_frzA_nil, ↓W_frzA_t, ↓W_frzA_im, ↓W_frzA_bo, ↓W_callE, ↓W_eCallN, ↓W_eCallF, ↓WO_runF, ↓W_mR1, ↓W_mR2, ↓W_mR3, ↓W_eRev, ↓W_eRev2, ↓W_eRev7, ↓W_eFrz, ↓W_eGetZ, ↓W_eKf, ↓W_eLk, ↓W_mLst, ↓W_mLz, ↓W_mTup, ↓W_mEnum, ↓W_mEnumT, ↓W_mStr, ↓W_mDk, ↓W_mZip, ↓W_sFor, ↓W_sWhl, ↓W_eComp, ↓W_eTupB, ↓W_sAug, ↓W_sAugS, ↓W_eTmpD, ↓W_eTmpU, ↓W_sLkS, ↓W_mDi, ↓W_mZipM, ↓Rw_to4, ↓Rw_from4, ↓W_gT_Fld, ↓W_gT_Gt, ↓W_gT_Lt, ↓W_gT_bD, ↓W_gT_Dn, ↓W_gT_Rw, ↓Fld_i0, ↓Fld_i1, ↓Fld_i2, ↓Fld_i3, ↓Fld_i4, ↓Gt_i0, ↓Gt_i1, ↓Gt_i2, ↓Gt_i3, ↓Lt_i0, ↓Lt_i1, ↓Lt_i2, ↓bD_i0, ↓bD_i1, ↓Dn_i0, ↓Dn_i1, ↓Dn_i2, ↓Dn_i3, ↓Rw_i0, ↓Rw_i1, ↓Rw_i2, ↓Rw_i3, ↓Rw_i4, ↓Rw_i5, ↓Rw_i6, ↓Ter_i0, ↓Ter_i1, FnN_sig, Fk_sem, Fk_sig, exV_im, exV_ex, exOf_ex, exOf_nx, tyF, frK_fr, nxK_nx, lstLF, atomV, WO_map, WO_some, WO_none, WB_true, WB_false, WC_true, goes_nx, goes_ct, goes_bk, goes_rt, cut_nx, cut_bk, cut_ct, cut_rt, puts_nil, puts_cons, List.getElem?_cons_zero, List.getElem?_cons_succ, setO, frzO_eq, Option.map_some, putO, putC, List.set_cons_zero, List.set_cons_succ, mutAtD, only, dropM, mutL, PD.cnts, PD.cnt, Vl.hold, tyT, beq_self_eq_true, small_eq, lessL_eq, decide_true, decide_false, List.length_cons, List.length_nil, mkE, List.replicate_succ, List.replicate_zero, List.cons_append, List.nil_append, outE, retV, ioAll, ioIx, brIx, mutAt, updE, disj, nmOut, Vl.nm, D.nm, D.nmC, nms, Sl.mut, Sl.frz, D.atom, List.map_cons, List.map_nil, wipeE, unwipe, calm_em, calm_im, calm_none, List.all_cons, List.all_nil, Bool.and_true, Bool.true_and, Bool.and_self, Bool.or_true, Bool.or_self, Bool.true_or, Bool.false_or, Bool.or_false, Bool.not_true, Bool.not_false, Bool.and_false, Bool.false_and, List.isEmpty_nil, List.isEmpty_cons, List.nodup_cons, List.nodup_nil, List.not_mem_nil, not_false_eq_true, and_self, List.contains_nil, if_true, if_false, Bool.false_eq_true, ite_true, ite_false, rg1, rg2, rg3_10, revLD, rev2D, rev7D, addND, subND, seqL, seqZ, seqT, zipO, addD, subD, mulD, mulTD, divD, modD, powD, negD, ltD, leD, gtD, geD, lenD, absD, minD, maxD, PD.intD, ixD, isnD, appendD, reverseD, extendD, slD, setD, listD, tupleD, tupleBD, truD, at0, at1, at2, at3, at4, at5, at6, at7, sd0, sd1, sd2, sd3, ixN, Int.cast_ofNat_Int, Int.reduceEq, Int.reduceNe, Int.reduceLT, Int.reduceLE, Int.reduceNeg, Int.reduceAdd, Int.reduceSub, Int.reduceMul, Int.reducePow, Nat.reducePow, Int.reduceToNat, Int.reduceAbs, ne_eq, not_true_eq_false, Nat.zero_add, Nat.add_zero, Nat.reduceAdd, Nat.reduceSub, Nat.reduceLT, Nat.reduceLeDiff, Nat.reduceEqDiff, Nat.reduceMul, i63_0, i63_1, zipMO_lt, zipMO_tl, zipMO_ll, List.flatten_cons, List.flatten_nil, Nat.lt_irrefl, reduceCtorEq, Nat.zero_lt_succ, Nat.reduceSubDiff, Nat.sub_zero, Nat.sub_self, Bool.not_eq_true, Bool.not_eq_false, b__law_mix, b__law_pick, ce__law_names_1, cp__law_names_1, ce__law_names_2, cp__law_names_2, ce__law_names_3, cp__law_names_3, fl__law_names_4, b__law_names, ce__law_terrace_1, cp__law_terrace_1, ce__law_terrace_2, cp__law_terrace_2, fl__law_terrace_3, fl__law_terrace_4, b__law_terrace, fl__law_holders_1, fl__law_holders_2, fl__law_holders_3, b__law_holders, ce__law_loans_1, cp__law_loans_1, fl__law_loans_2, b__law_loans, ce__law_case_1, cp__law_case_1, b__law_case, b__law_left, ce_gate_row_1, cp_gate_row_1, b_gate_row, b_right_of, fl_holder_of_1, b_holder_of, fl_look_loans_1, b_look_loans, ce__law_bent_1, cp__law_bent_1, b__law_bent, b__law_caught, fl__law_first_bad_1, b__law_first_bad, b__law_place, ce_law_1, cp_law_1, fl_law_2, fl_law_3, b_law, sig__law_mix, sig__law_pick, sig__law_names, sig__law_terrace, sig__law_holders, sig__law_loans, sig__law_case, sig__law_left, sig_gate_row, sig_right_of, sig_holder_of, sig_look_loans, sig__law_bent, sig__law_caught, sig__law_first_bad, sig__law_place, sig_law, $xs,*])
local macro_rules | `(tactic| simp_arith) => `(tactic| simp_arith [W_cN])
theorem grow_wp {fl : List Fld} {gs : List Gt} {ow : List Str} {g : Gt} {K : Vl × List D → Prop} (ht : TerrL ow fl gs) (hg : g ∈ gs) (q : K (.im g.d, [terD fl gs, .str g.nm])) : @WO _ (F_gate_row.sem [terD fl gs, .str g.nm]) ⟨K⟩ := by
  rw [sem_gate_row]
  simp_arith
  refine W_comp_fltA Gt.d (fun x => decide (x.nm = g.nm)) (fun x => x.d) (fun x hx => ?_) ?_
  · simp_arith [eqD_str]
    refine WB_cases' (fun h1 => ?_) (fun h1 => ?_)
    · simp_arith
      simp [h1, wipeE]
    · simp_arith
      simp [h1, wipeE]
  rw [filt_one (k := Gt.nm) ht.nd hg]
  simp_arith
  exact q
theorem right_wp {fl : List Fld} {gs : List Gt} {ow : List Str} {g : Gt} {d : Int} {K : Vl × List D → Prop} (ht : TerrL ow fl gs) (hg : g ∈ gs) (q : K (.im (.str (rightG g d)), [terD fl gs, .str g.nm, .int d])) : @WO _ (F_right_of.sem [terD fl gs, .str g.nm, .int d]) ⟨K⟩ := by
  have k := ht.gsh g hg
  have r0 := k.r0
  have hz : ((g.ri.length : Int) = 0) = False := eq_false (by omega)
  have hat : L2.atI (g.ri.map D.str) (Int.fmod d (g.ri.length : Int)) = some (.str (rightG g d)) := by
    rw [fmod_emod (by omega)]
    have h0 := Int.emod_nonneg d (show (g.ri.length : Int) ≠ 0 by omega)
    have := atI_map D.str (rightG_mem (d := d) r0).2
    rwa [Int.toNat_of_nonneg h0] at this
  rw [sem_right_of]
  simp_arith
  refine grow_wp ht hg ?_
  simp_arith [List.length_map, hz, hat]
  exact q
theorem holder_wp {fl : List Fld} {gs : List Gt} {ow : List Str} {g : Gt} {ls : List Ln} {d : Int} {K : Vl × List D → Prop} (ht : TerrL ow fl gs) (hg : g ∈ gs) (q : K (.im (.str (holdG g ls d)), [terD fl gs, .lst (ls.map Ln.D), .str g.nm, .int d])) : @WO _ (F_holder_of.sem [terD fl gs, .lst (ls.map Ln.D), .str g.nm, .int d]) ⟨K⟩ := by
  rw [sem_holder_of]
  simp_arith
  refine right_wp ht hg ?_
  simp_arith
  refine W_forE (fun e0 i e => ∃ a b c d', e = puts e0 [(4, .im (.str (holdG g (ls.take i) d))), (5, a), (6, b), (7, c), (8, d')]) ⟨_, _, _, _, rfl⟩ ?_ ?_
  · rintro i _ _ hd ⟨a, b, c, d', rfl⟩
    obtain ⟨l, hli, hlm, rfl⟩ := at_map hd
    have hs : holdG g (ls.take (i + 1)) d = if l.d = d ∧ l.g = g.nm then l.b else holdG g (ls.take i) d := by
      rw [take_snoc hli]
      exact holdL_snoc ..
    simp_arith [fb_holder_of_1, Ln.D, eqD_int, eqD_str]
    refine WB_cases' (fun h1 => ?_) (fun h1 => ?_)
    · simp_arith [eqD_str]
      refine WB_cases' (fun h2 => ?_) (fun h2 => ?_)
      · simp_arith
        rw [hs, if_pos ⟨h1, h2⟩]
        exact ⟨_, _, _, _, rfl⟩
      · simp_arith
        rw [hs, if_neg (fun z => h2 z.2)]
        exact ⟨_, _, _, _, rfl⟩
    · simp_arith
      rw [hs, if_neg (fun z => h1 z.1)]
      exact ⟨_, _, _, _, rfl⟩
  · rintro _ ⟨a, b, c, d', rfl⟩
    rw [List.length_map, List.take_length]
    simp_arith
    exact q
theorem holders_wp {fl : List Fld} {gs : List Gt} {ow pp : List Str} {ls : List Ln} {K : Vl × List D → Prop} (ht : TerrL ow fl gs) (hls : ∀ l ∈ ls, LnOk gs pp l)
    (q : ∀ es, HeldIs gs ls es → K (.fr (.dt es), [terD fl gs, .lst (ls.map Ln.D)])) : @WO _ (F__law_holders.sem [terD fl gs, .lst (ls.map Ln.D)]) ⟨K⟩ := by
  have g4 := ht.g4
  rw [sem__law_holders]
  simp_arith
  refine W_forE (fun e0 i e => ∃ es a b c d f, HeldC gs rightG (fun g d => g ∈ gs.take i ∧ 0 ≤ d ∧ d < 40) es ∧ e = puts e0 [(2, .ow (.dt es)), (3, a), (4, b), (5, c), (6, d), (7, f)]) ⟨[], _, _, _, _, _, HeldC.nil.cong fun g hg d => by simp, rfl⟩ ?_ ?_
  · rintro i _ _ hd ⟨es, a, b, c, d, f, hC, rfl⟩
    obtain ⟨g, hgi, hgm, rfl⟩ := at_map hd
    have k := ht.gsh g hgm
    have r0 := k.r0
    have hz : ((g.ri.length : Int) = 0) = False := eq_false (by omega)
    simp_arith [fb__law_holders_3]
    refine WO_if (by exact in62_small (by omega) (by omega)) ?_
    simp_arith
    refine W_forE (fun e0 j e => ∃ es a, HeldC gs rightG (fun g' d => (g' ∈ gs.take i ∧ 0 ≤ d ∧ d < 40) ∨ (g' = g ∧ 0 ≤ d ∧ d < j)) es ∧ e = puts e0 [(2, .ow (.dt es)), (7, a)]) ⟨es, _, hC.cong fun g' hg' d => ⟨.inl, fun z => z.elim id fun z => by omega⟩, rfl⟩ ?_ ?_
    · rintro j _ _ hd ⟨es, a, hC, rfl⟩
      obtain ⟨hj, rfl⟩ := rng_get hd
      have hj : j < 40 := hj
      have hes := hC.len
      have hat : L2.atI (g.ri.map D.str) (Int.fmod (0 + (j : Int)) (g.ri.length : Int)) = some (.str (rightG g (0 + (j : Int)))) := by
        rw [fmod_emod (by omega)]
        have h0 := Int.emod_nonneg (0 + (j : Int)) (show (g.ri.length : Int) ≠ 0 by omega)
        have := atI_map D.str (rightG_mem (d := 0 + (j : Int)) r0).2
        rwa [Int.toNat_of_nonneg h0] at this
      have hp := hC.put ht.nd hgm (d := 0 + (j : Int)) (by omega) (by omega)
      simp_arith [fb__law_holders_2, List.length_map, hz, hat, set_dt]
      refine WO_ifd (by omega) ?_
      simp_arith
      refine ⟨_, _, hp.cong fun g' hg' d => ?_, rfl⟩
      constructor
      · rintro ((h | ⟨rfl, h0, h1⟩) | ⟨rfl, rfl⟩)
        · exact .inl h
        · exact .inr ⟨rfl, h0, by omega⟩
        · exact .inr ⟨rfl, by omega, by omega⟩
      · rintro (h | ⟨rfl, h0, h1⟩)
        · exact .inl (.inl h)
        · by_cases e : d = 0 + (j : Int)
          · exact .inr ⟨rfl, e⟩
          · exact .inl (.inr ⟨rfl, h0, by omega⟩)
    rintro _ ⟨es, a, hC, rfl⟩
    rw [rng_len] at hC
    simp_arith
    refine ⟨es, _, _, _, _, _, hC.cong fun g' hg' d => ?_, rfl⟩
    rw [take_snoc hgi]
    constructor
    · rintro (⟨h, h0⟩ | ⟨rfl, h0, h1⟩)
      · exact ⟨List.mem_append_left _ h, h0⟩
      · exact ⟨List.mem_append_right _ (List.mem_singleton.mpr rfl), h0, h1⟩
    · rintro ⟨h, h0⟩
      rcases List.mem_append.mp h with h | h
      · exact .inl ⟨h, h0⟩
      · exact .inr ⟨List.mem_singleton.mp h, h0⟩
  rintro _ ⟨es, a, b, c, d, f, hC, rfl⟩
  rw [List.length_map, List.take_length] at hC
  have h0 : HeldIs gs (ls.take 0) es := (hC.cong (cov' := allT) fun g hg d => ⟨fun z => z.2, fun z => ⟨hg, z⟩⟩)
  simp_arith
  refine W_forE (fun e0 i e => ∃ es a b c d, HeldIs gs (ls.take i) es ∧ e = puts e0 [(2, .ow (.dt es)), (3, a), (7, b), (8, c), (9, d)]) ⟨es, _, _, _, _, h0, rfl⟩ ?_ ?_
  · rintro i _ _ hd ⟨es, a, b, c, d, hC, rfl⟩
    obtain ⟨l, hli, hlm, rfl⟩ := at_map hd
    have k := hls l hlm
    have hes := hC.len
    have hp := hC.lend (l := l) k.g k.d0 k.d1
    rw [← take_snoc hli] at hp
    simp_arith [fb__law_holders_1, Ln.D, set_dt]
    refine WO_ifd (by omega) ?_
    simp_arith
    exact ⟨_, _, _, _, _, hp, rfl⟩
  · rintro _ ⟨es, a, b, c, d, hC, rfl⟩
    rw [List.length_map, List.take_length] at hC
    simp_arith
    exact q es hC
end L_k35
namespace L_k35
open PySem PySem.Spec PyProof.Rows L2 PD
local macro_rules | `(tactic| simp_arith [$xs,*]) => `(tactic| try simp only [↓W_eDisp, ↓W_qN, ↓W_qA, ↓W_qJs, ↓W_qJi, ↓W_rt, ↓W_bd, ↓W_eC, ↓W_eV, ↓W_cN, ↓W_cA, ↓W_eP, ↓W_eM, ↓W_eMf, ↓W_ckF, ↓W_ckT, ↓W_eU, ↓W_eUC, ↓W_eTup, ↓W_eLst, ↓W_eDk, ↓W_eDt, ↓W_mB, ↓W_mT, ↓W_mNot, ↓W_mAnd, ↓W_mOr, ↓W_eNot, ↓W_eAnd, ↓W_eOr, ↓W_eIf, ↓W_eTmp, ↓W_eTmpA, ↓W_cNn, ↓W_cAn, ↓W_eTmpL, ↓W_mTmp, ↓W_oN, ↓W_oS, ↓W_eSl, ↓W_eChain, ↓W_sNil, ↓W_sPass, ↓W_sBrk, ↓W_sCnt, ↓W_sRetN, ↓W_sSeq, ↓W_sExp, ↓W_sRet, ↓W_sIf, ↓W_sAsg, ↓W_gsN, ↓W_gsC, ↓W_gT, ↓W_gTl, ↓W_gS, ↓W_sRaise0, ↓W_sRaise1, ↓W_sTryK, ↓W_sCallX, ↓W_hb_im, ↓W_hb_fr, ↓W_hb_bo, ↓W_sPF, ↓W_sPF3, ↓W_sPF4, ↓W_gN_im, ↓W_gN_fr, ↓W_gN_bo, ↓W_frz_im, ↓W_frz_fr, ↓W_frz_bo, ↓W_frzs_nil, ↓W_frzs_cons, ↓W_frzA_nil, ↓W_frzA_t, ↓W_frzA_im, ↓W_frzA_bo, ↓W_callE, ↓W_eCallN, ↓W_eCallF, ↓WO_runF, ↓W_mR1, ↓W_mR2, ↓W_mR3, ↓W_eRev, ↓W_eRev2, ↓W_eRev7, ↓W_eFrz, ↓W_eGetZ, ↓W_eKf, ↓W_eLk, ↓W_mLst, ↓W_mLz, ↓W_mTup, ↓W_mEnum, ↓W_mEnumT, ↓W_mStr, ↓W_mDk, ↓W_mZip, ↓W_sFor, ↓W_sWhl, ↓W_eComp, ↓W_eTupB, ↓W_sAug, ↓W_sAugS, ↓W_eTmpD, ↓W_eTmpU, ↓W_sLkS, ↓W_mDi, ↓W_mZipM, ↓Rw_to4, ↓Rw_from4, ↓W_gT_Fld, ↓W_gT_Gt, ↓W_gT_Lt, ↓W_gT_bD, ↓W_gT_Dn, ↓W_gT_Rw, ↓Fld_i0, ↓Fld_i1, ↓Fld_i2, ↓Fld_i3, ↓Fld_i4, ↓Gt_i0, ↓Gt_i1, ↓Gt_i2, ↓Gt_i3, ↓Lt_i0, ↓Lt_i1, ↓Lt_i2, ↓bD_i0, ↓bD_i1, ↓Dn_i0, ↓Dn_i1, ↓Dn_i2, ↓Dn_i3, ↓Rw_i0, ↓Rw_i1, ↓Rw_i2, ↓Rw_i3, ↓Rw_i4, ↓Rw_i5, ↓Rw_i6, ↓Ter_i0, ↓Ter_i1, FnN_sig, Fk_sem, Fk_sig, exV_im, exV_ex, exOf_ex, exOf_nx, tyF, frK_fr, nxK_nx, lstLF, atomV, WO_map, WO_some, WO_none, WB_true, WB_false, WC_true, goes_nx, goes_ct, goes_bk, goes_rt, cut_nx, cut_bk, cut_ct, cut_rt, puts_nil, puts_cons, List.getElem?_cons_zero, List.getElem?_cons_succ, setO, frzO_eq, Option.map_some, putO, putC, List.set_cons_zero, List.set_cons_succ, mutAtD, only, dropM, mutL, PD.cnts, PD.cnt, Vl.hold, tyT, beq_self_eq_true, small_eq, lessL_eq, decide_true, decide_false, List.length_cons, List.length_nil, mkE, List.replicate_succ, List.replicate_zero, List.cons_append, List.nil_append, outE, retV, ioAll, ioIx, brIx, mutAt, updE, disj, nmOut, Vl.nm, D.nm, D.nmC, nms, Sl.mut, Sl.frz, D.atom, List.map_cons, List.map_nil, wipeE, unwipe, calm_em, calm_im, calm_none, List.all_cons, List.all_nil, Bool.and_true, Bool.true_and, Bool.and_self, Bool.or_true, Bool.or_self, Bool.true_or, Bool.false_or, Bool.or_false, Bool.not_true, Bool.not_false, Bool.and_false, Bool.false_and, List.isEmpty_nil, List.isEmpty_cons, List.nodup_cons, List.nodup_nil, List.not_mem_nil, not_false_eq_true, and_self, List.contains_nil, if_true, if_false, Bool.false_eq_true, ite_true, ite_false, rg1, rg2, rg3_10, revLD, rev2D, rev7D, addND, subND, seqL, seqZ, seqT, zipO, addD, subD, mulD, mulTD, divD, modD, powD, negD, ltD, leD, gtD, geD, lenD, absD, minD, maxD, PD.intD, ixD, isnD, appendD, reverseD, extendD, slD, setD, listD, tupleD, tupleBD, truD, at0, at1, at2, at3, at4, at5, at6, at7, sd0, sd1, sd2, sd3, ixN, Int.cast_ofNat_Int, Int.reduceEq, Int.reduceNe, Int.reduceLT, Int.reduceLE, Int.reduceNeg, Int.reduceAdd, Int.reduceSub, Int.reduceMul, Int.reducePow, Nat.reducePow, Int.reduceToNat, Int.reduceAbs, ne_eq, not_true_eq_false, Nat.zero_add, Nat.add_zero, Nat.reduceAdd, Nat.reduceSub, Nat.reduceLT, Nat.reduceLeDiff, Nat.reduceEqDiff, Nat.reduceMul, i63_0, i63_1, zipMO_lt, zipMO_tl, zipMO_ll, List.flatten_cons, List.flatten_nil, Nat.lt_irrefl, reduceCtorEq, Nat.zero_lt_succ, Nat.reduceSubDiff, Nat.sub_zero, Nat.sub_self, Bool.not_eq_true, Bool.not_eq_false, b__law_mix, b__law_pick, ce__law_names_1, cp__law_names_1, ce__law_names_2, cp__law_names_2, ce__law_names_3, cp__law_names_3, fl__law_names_4, b__law_names, ce__law_terrace_1, cp__law_terrace_1, ce__law_terrace_2, cp__law_terrace_2, fl__law_terrace_3, fl__law_terrace_4, b__law_terrace, fl__law_holders_1, fl__law_holders_2, fl__law_holders_3, b__law_holders, ce__law_loans_1, cp__law_loans_1, fl__law_loans_2, b__law_loans, ce__law_case_1, cp__law_case_1, b__law_case, b__law_left, ce_gate_row_1, cp_gate_row_1, b_gate_row, b_right_of, fl_holder_of_1, b_holder_of, fl_look_loans_1, b_look_loans, ce__law_bent_1, cp__law_bent_1, b__law_bent, b__law_caught, fl__law_first_bad_1, b__law_first_bad, b__law_place, ce_law_1, cp_law_1, fl_law_2, fl_law_3, b_law, sig__law_mix, sig__law_pick, sig__law_names, sig__law_terrace, sig__law_holders, sig__law_loans, sig__law_case, sig__law_left, sig_gate_row, sig_right_of, sig_holder_of, sig_look_loans, sig__law_bent, sig__law_caught, sig__law_first_bad, sig__law_place, sig_law, $xs,*])
local macro_rules | `(tactic| simp_arith) => `(tactic| simp_arith [W_cN])
/-- each loan is given by who holds the turn by then -/
def LnCh (gs : List Gt) (ls : List Ln) : Prop := ∀ (i : Nat) (l : Ln), ls[i]? = some l → ∃ g ∈ gs, g.nm = l.g ∧ l.a = holdG g (ls.take i) l.d ∧ l.a ≠ l.b
theorem loans_wp {n m : Nat} {l : D} {fl : List Fld} {gs : List Gt} {ow pp : List Str} {days : List Int} {K : Vl × List D → Prop} (h : Lf n l) (hn : n < 2 ^ 19) (ht : TerrL ow fl gs) (hop : ∀ x ∈ ow, x ∈ pp) (pnd : pp.Nodup) (p3 : 3 ≤ pp.length) (p20 : pp.length ≤ 20) (hm : m ≤ 24) (hd1 : 1 ≤ days.length) (hd2 : days.length ≤ 20) (hd : ∀ x ∈ days, 0 ≤ x ∧ x < 40)
    (q : ∀ (ls : List Ln) (l' : D), ls.length = m → (∀ x ∈ ls, LnOk gs pp x) → LnCh gs ls → Lf (n + 4 * m) l' → K (.fr (.lst (ls.map Ln.D)), [l', terD fl gs, .lst (pp.map D.str), .int (m : Int), .lst (days.map D.int)])) :
    @WO _ (F__law_loans.sem [l, terD fl gs, .lst (pp.map D.str), .int (m : Int), .lst (days.map D.int)]) ⟨K⟩ := by
  have g1 := ht.g1
  have g4 := ht.g4
  rw [sem__law_loans]
  simp_arith [b__law_loans]
  refine holders_wp (ls := []) (pp := pp) ht (fun _ h => by simp at h) fun es0 h0 => ?_
  simp_arith
  refine WO_if (by exact in62_small (by omega) (by omega)) ?_
  simp_arith
  refine W_forE (fun e0 i e => ∃ ls es l a b c d, ls.length = i ∧ (∀ x ∈ ls, LnOk gs pp x) ∧ LnCh gs ls ∧ HeldIs gs ls es ∧ Lf (n + 4 * i) l ∧ e = puts e0 [(0, .io 0 l), (5, .ow (.dt es)), (6, .ow (.lst (ls.map Ln.D))), (7, a), (8, b), (9, c), (10, d)]) ⟨[], es0, l, _, _, _, _, rfl, fun _ h => by simp at h, fun i l h => by simp at h, h0, h, rfl⟩ ?_ ?_
  · rintro i _ _ hd' ⟨ls, es, l1, a, b, c, d, hl, hok, hch, hH, B1, rfl⟩
    obtain ⟨hi, rfl⟩ := rng_get hd'
    rw [Int.toNat_natCast] at hi
    simp_arith
    rw [fb__law_loans_2]
    refine W_cut2 (fun e0 e' => ∃ (g : Gt) (dy : Int) (l : D), g ∈ gs ∧ 0 ≤ dy ∧ dy < 40 ∧ Lf (n + 4 * i + 3) l ∧ e' = puts e0 [(0, .io 0 l), (8, .im (.str g.nm)), (9, .im (.int dy))]) ?_ ?_
    · simp_arith [List.length_map]
      refine pick_wp (by assumption) (by omega) (by omega) (by omega) fun r1 l2 r1a r1b B2 => ?_
      simp_arith
      refine WO_atA Gt.d (by omega) (by omega) fun j g _ hg => ?_
      simp_arith
      refine pick_wp (by assumption) (by omega) (by omega) (by omega) fun r2 l3 r2a r2b B3 => ?_
      simp_arith
      refine WB_cases' (fun _ => ?_) (fun _ => ?_)
      · simp_arith [List.length_map]
        refine pick_wp (by assumption) (by omega) (by omega) (by omega) fun r3 l4 r3a r3b B4 => ?_
        simp_arith
        refine WO_atA D.int (by omega) (by omega) fun j2 dy _ hdy => ?_
        simp_arith
        obtain ⟨e1, e2⟩ := hd dy (List.mem_of_getElem? hdy)
        exact ⟨g, dy, l4, List.mem_of_getElem? hg, e1, e2, B4, rfl⟩
      · simp_arith
        refine pick_wp (by assumption) (by omega) (by omega) (by omega) fun r3 l4 r3a r3b B4 => ?_
        simp_arith
        exact ⟨g, r3, l4, List.mem_of_getElem? hg, by assumption, by omega, B4, rfl⟩
    rintro _ ⟨g, dy, l2, hg, dy0, dy1, B2, rfl⟩
    have hget := hH.get g hg dy ⟨dy0, dy1⟩
    have hx : ixD [.dt es, .tup [.int dy, .str g.nm]] = some (.im (.str (holdG g ls dy))) := by
      rw [ix_dt, hget]
      rfl
    have hhm : holdG g ls dy ∈ pp := holdL_mem (hop _ ((ht.gsh g hg).r2 _ (rightG_mem (ht.gsh g hg).r0).1)) fun x hx => (hok x hx).b
    generalize hho : holdG g ls dy = who at *
    have hol : 2 ≤ (pp.filter fun x => !decide (x = who)).length := by
      have h1 : pp.length ≤ (who :: pp.filter fun x => !decide (x = who)).length := nodup_subA pnd fun x hx => by
        by_cases e : x = who
        · rw [e]; exact List.mem_cons_self ..
        · exact List.mem_cons_of_mem _ (List.mem_filter.mpr ⟨hx, by simpa using e⟩)
      rw [List.length_cons] at h1
      omega
    have hol2 := List.length_filter_le (fun x => !decide (x = who)) pp
    simp_arith
    refine W_comp_fltA D.str (fun x => !decide (x = who)) (fun x => .str x) (fun x hx' => ?_) ?_
    · by_cases e : x = who
      · simp_arith [↓hx, neD_str, e]
      · simp_arith [↓hx, neD_str, e]
    simp_arith [List.length_map]
    refine WC_dec (by omega) ?_
    simp_arith [↓hx, List.length_map]
    refine pick_wp (by assumption) (by omega) (by omega) (by omega) fun r4 l3 r4a r4b B3 => ?_
    simp_arith
    refine WO_atA (fun x : Str => D.str x) (by omega) (by omega) fun j3 o _ ho => ?_
    obtain ⟨om, on⟩ := List.mem_filter.mp (List.mem_of_getElem? ho)
    have on : o ≠ who := by simpa using on
    simp_arith [List.length_map]
    refine WO_ifd (by omega) ?_
    have em : ls.map Ln.D ++ [D.tup [.int dy, .str g.nm, .str who, .str o]] = (ls ++ [(⟨dy, g.nm, who, o⟩ : Ln)]).map Ln.D := by
      rw [List.map_append]
      rfl
    have hla : L2.atI (ls.map Ln.D ++ [D.tup [.int dy, .str g.nm, .str who, .str o]]) (-1) = some (D.tup [.int dy, .str g.nm, .str who, .str o]) := L2.atI_last _ _
    have hes := hH.len
    have ok : LnOk gs pp ⟨dy, g.nm, who, o⟩ := ⟨dy0, dy1, ⟨g, hg, rfl⟩, hhm, om⟩
    have hp := hH.lend (l := ⟨dy, g.nm, who, o⟩) ok.g ok.d0 ok.d1
    simp_arith [hla, set_dt]
    refine WO_ifd (by omega) ?_
    simp_arith [em]
    refine ⟨ls ++ [⟨dy, g.nm, who, o⟩], _, l3, _, _, _, _, by rw [List.length_append, hl]; rfl, fun x hx => ?_, fun j l hj => ?_, hp, B3.mono (by omega), rfl⟩
    · rcases List.mem_append.mp hx with hx | hx
      · exact hok x hx
      · rw [List.mem_singleton.mp hx]
        exact ok
    · rcases snoc_get hj with ⟨hj1, hj2⟩ | ⟨hj1, rfl⟩
      · rw [List.take_append_of_le_length (by omega)]
        exact hch j l hj2
      · rw [List.take_append_of_le_length (by omega), hj1, List.take_length]
        exact ⟨g, hg, rfl, hho.symm, fun z => on z.symm⟩
  · rintro _ ⟨ls, es, l1, a, b, c, d, hl, hok, hch, hH, B1, rfl⟩
    rw [rng_len, Int.toNat_natCast] at hl B1
    simp_arith
    exact q ls _ hl hok hch B1
end L_k35
namespace L_k35
open PySem PySem.Spec PyProof.Rows L2 PD
local macro_rules | `(tactic| simp_arith [$xs,*]) => `(tactic| try simp only [↓W_eDisp, ↓W_qN, ↓W_qA, ↓W_qJs, ↓W_qJi, ↓W_rt, ↓W_bd, ↓W_eC, ↓W_eV, ↓W_cN, ↓W_cA, ↓W_eP, ↓W_eM, ↓W_eMf, ↓W_ckF, ↓W_ckT, ↓W_eU, ↓W_eUC, ↓W_eTup, ↓W_eLst, ↓W_eDk, ↓W_eDt, ↓W_mB, ↓W_mT, ↓W_mNot, ↓W_mAnd, ↓W_mOr, ↓W_eNot, ↓W_eAnd, ↓W_eOr, ↓W_eIf, ↓W_eTmp, ↓W_eTmpA, ↓W_cNn, ↓W_cAn, ↓W_eTmpL, ↓W_mTmp, ↓W_oN, ↓W_oS, ↓W_eSl, ↓W_eChain, ↓W_sNil, ↓W_sPass, ↓W_sBrk, ↓W_sCnt, ↓W_sRetN, ↓W_sSeq, ↓W_sExp, ↓W_sRet, ↓W_sIf, ↓W_sAsg, ↓W_gsN, ↓W_gsC, ↓W_gT, ↓W_gTl, ↓W_gS, ↓W_sRaise0, ↓W_sRaise1, ↓W_sTryK, ↓W_sCallX, ↓W_hb_im, ↓W_hb_fr, ↓W_hb_bo, ↓W_sPF, ↓W_sPF3, ↓W_sPF4, ↓W_gN_im, ↓W_gN_fr, ↓W_gN_bo, ↓W_frz_im, ↓W_frz_fr, ↓W_frz_bo, ↓W_frzs_nil, ↓W_frzs_cons, ↓W_frzA_nil, ↓W_frzA_t, ↓W_frzA_im, ↓W_frzA_bo, ↓W_callE, ↓W_eCallN, ↓W_eCallF, ↓WO_runF, ↓W_mR1, ↓W_mR2, ↓W_mR3, ↓W_eRev, ↓W_eRev2, ↓W_eRev7, ↓W_eFrz, ↓W_eGetZ, ↓W_eKf, ↓W_eLk, ↓W_mLst, ↓W_mLz, ↓W_mTup, ↓W_mEnum, ↓W_mEnumT, ↓W_mStr, ↓W_mDk, ↓W_mZip, ↓W_sFor, ↓W_sWhl, ↓W_eComp, ↓W_eTupB, ↓W_sAug, ↓W_sAugS, ↓W_eTmpD, ↓W_eTmpU, ↓W_sLkS, ↓W_mDi, ↓W_mZipM, ↓Rw_to4, ↓Rw_from4, ↓W_gT_Fld, ↓W_gT_Gt, ↓W_gT_Lt, ↓W_gT_bD, ↓W_gT_Dn, ↓W_gT_Rw, ↓Fld_i0, ↓Fld_i1, ↓Fld_i2, ↓Fld_i3, ↓Fld_i4, ↓Gt_i0, ↓Gt_i1, ↓Gt_i2, ↓Gt_i3, ↓Lt_i0, ↓Lt_i1, ↓Lt_i2, ↓bD_i0, ↓bD_i1, ↓Dn_i0, ↓Dn_i1, ↓Dn_i2, ↓Dn_i3, ↓Rw_i0, ↓Rw_i1, ↓Rw_i2, ↓Rw_i3, ↓Rw_i4, ↓Rw_i5, ↓Rw_i6, ↓Ter_i0, ↓Ter_i1, FnN_sig, Fk_sem, Fk_sig, exV_im, exV_ex, exOf_ex, exOf_nx, tyF, frK_fr, nxK_nx, lstLF, atomV, WO_map, WO_some, WO_none, WB_true, WB_false, WC_true, goes_nx, goes_ct, goes_bk, goes_rt, cut_nx, cut_bk, cut_ct, cut_rt, puts_nil, puts_cons, List.getElem?_cons_zero, List.getElem?_cons_succ, setO, frzO_eq, Option.map_some, putO, putC, List.set_cons_zero, List.set_cons_succ, mutAtD, only, dropM, mutL, PD.cnts, PD.cnt, Vl.hold, tyT, beq_self_eq_true, small_eq, lessL_eq, decide_true, decide_false, List.length_cons, List.length_nil, mkE, List.replicate_succ, List.replicate_zero, List.cons_append, List.nil_append, outE, retV, ioAll, ioIx, brIx, mutAt, updE, disj, nmOut, Vl.nm, D.nm, D.nmC, nms, Sl.mut, Sl.frz, D.atom, List.map_cons, List.map_nil, wipeE, unwipe, calm_em, calm_im, calm_none, List.all_cons, List.all_nil, Bool.and_true, Bool.true_and, Bool.and_self, Bool.or_true, Bool.or_self, Bool.true_or, Bool.false_or, Bool.or_false, Bool.not_true, Bool.not_false, Bool.and_false, Bool.false_and, List.isEmpty_nil, List.isEmpty_cons, List.nodup_cons, List.nodup_nil, List.not_mem_nil, not_false_eq_true, and_self, List.contains_nil, if_true, if_false, Bool.false_eq_true, ite_true, ite_false, rg1, rg2, rg3_10, revLD, rev2D, rev7D, addND, subND, seqL, seqZ, seqT, zipO, addD, subD, mulD, mulTD, divD, modD, powD, negD, ltD, leD, gtD, geD, lenD, absD, minD, maxD, PD.intD, ixD, isnD, appendD, reverseD, extendD, slD, setD, listD, tupleD, tupleBD, truD, at0, at1, at2, at3, at4, at5, at6, at7, sd0, sd1, sd2, sd3, ixN, Int.cast_ofNat_Int, Int.reduceEq, Int.reduceNe, Int.reduceLT, Int.reduceLE, Int.reduceNeg, Int.reduceAdd, Int.reduceSub, Int.reduceMul, Int.reducePow, Nat.reducePow, Int.reduceToNat, Int.reduceAbs, ne_eq, not_true_eq_false, Nat.zero_add, Nat.add_zero, Nat.reduceAdd, Nat.reduceSub, Nat.reduceLT, Nat.reduceLeDiff, Nat.reduceEqDiff, Nat.reduceMul, i63_0, i63_1, zipMO_lt, zipMO_tl, zipMO_ll, List.flatten_cons, List.flatten_nil, Nat.lt_irrefl, reduceCtorEq, Nat.zero_lt_succ, Nat.reduceSubDiff, Nat.sub_zero, Nat.sub_self, Bool.not_eq_true, Bool.not_eq_false, sig__law_pick, sig__law_mix, sig__law_names, sig__law_terrace, sig__law_loans, cp__law_case_1, ce__law_case_1, $xs,*])
local macro_rules | `(tactic| simp_arith) => `(tactic| simp_arith [W_cN])
theorem case_wp {n : Nat} {l : D} {b : Bool} {K : Vl × List D → Prop} (h : Lf n l) (hn : n < 2 ^ 17)
    (q : ∀ (fl : List Fld) (gs : List Gt) (ow pp : List Str) (ls : List Ln) (l' : D), TerrL ow fl gs → RisG gs → (∀ x ∈ ow, x ∈ pp) → pp.Nodup → 3 ≤ pp.length → pp.length ≤ 6 → (∀ x ∈ pp, As 7 x) → ls.length ≤ 24 → (∀ x ∈ ls, LnOk gs pp x) → LnCh gs ls → Lf (n + 700) l' → K (.im (.tup [terD fl gs, .lst (pp.map D.str), .lst (ls.map Ln.D)]), [l', .bl b])) :
    @WO _ (F__law_case.sem [l, .bl b]) ⟨K⟩ := by
  rw [sem__law_case]
  simp_arith
  rw [b__law_case]
  refine W_cut1 (fun e0 e' => ∃ (pp : List Str) (l : D), pp.Nodup ∧ 3 ≤ pp.length ∧ pp.length ≤ 6 ∧ (∀ x ∈ pp, As 7 x) ∧ Lf (n + 61) l ∧ e' = puts e0 [(0, .io 0 l), (2, .ow (.lst (pp.map D.str)))]) ?_ ?_
  · simp_arith
    refine pick_wp (by assumption) (by omega) (by omega) (by omega) fun r1 l1 r1a r1b B1 => ?_
    obtain ⟨m, hm⟩ : ∃ m : Nat, (m : Int) = 3 + r1 := ⟨(3 + r1).toNat, Int.toNat_of_nonneg (by omega)⟩
    simp_arith
    rw [← hm]
    refine names_wp (told := []) (m := m) B1 (by omega) (by simp; omega) List.nodup_nil fun pp l2 hl hnd has B2 => ?_
    simp_arith
    exact ⟨pp, l2, hnd, by omega, by omega, has, B2.mono (by omega), rfl⟩
  rintro _ ⟨pp, l1, pnd, p3, p6, pas, B1, rfl⟩
  simp_arith
  refine pick_wp (by assumption) (by omega) (by omega) (by omega) fun r2 l2 r2a r2b B2 => ?_
  obtain ⟨m, hm⟩ : ∃ m : Nat, (m : Int) = 2 + r2 := ⟨(2 + r2).toNat, Int.toNat_of_nonneg (by omega)⟩
  have hcut : cutD (pp.map D.str) none (some (2 + r2)) = (pp.take m).map D.str := by
    rw [← hm, cut_map, cut_take]
  have hol : (pp.take m).length = min m pp.length := List.length_take
  simp_arith [hcut]
  refine terrace_wp (ow := pp.take m) B2 (by omega) (by omega) (by omega) (fun x hx => (pas x (List.mem_of_mem_take hx)).mono (by omega)) fun fl gs l3 ht hris B3 => ?_
  simp_arith
  refine pick_wp (by assumption) (by omega) (by omega) (by omega) fun r3 l4 r3a r3b B4 => ?_
  simp_arith
  refine WO_if (by exact in62_small (by omega) (by omega)) ?_
  simp_arith
  refine W_compE (fun e0 j ys e => ∃ l ds, ys = List.map D.int ds ∧ ds.length = j ∧ (∀ x ∈ ds, 0 ≤ x ∧ x < 40) ∧ Lf (n + 463 + j) l ∧ e = puts e0 [(0, .io 0 l)]) ⟨l4, [], rfl, rfl, fun _ h => by simp at h, B4.mono (by omega), rfl⟩ ?_ ?_
  · rintro j d ys _ hd ⟨l5, ds, rfl, k1, k2, B5, rfl⟩
    obtain ⟨hj, rfl⟩ := rng_get hd
    simp_arith
    refine pick_wp (by assumption) (by omega) (by omega) (by omega) fun r4 l6 r4a r4b B6 => ?_
    simp_arith
    exact ⟨l6, ds ++ [r4], by rw [List.map_append]; rfl, by rw [List.length_append, k1]; rfl, fun x hx => by
      rcases List.mem_append.mp hx with hx | hx
      · exact k2 x hx
      · rw [List.mem_singleton.mp hx]
        exact ⟨by assumption, by omega⟩, B6.mono (by omega), by trivial⟩
  rintro ys _ ⟨l5, ds, rfl, k1, k2, B5, rfl⟩
  rw [rng_len] at k1 B5
  simp_arith [List.length_map]
  refine WC_dec (by omega) ?_
  simp_arith
  cases b
  · simp_arith
    refine pick_wp (by assumption) (by omega) (by omega) (by omega) fun r5 l6 r5a r5b B6 => ?_
    simp_arith
    refine WO_atP (P := Has (.int 4 25)) ?_ (by omega) (by simp; omega) ?_
    · refine all_cons (Has.mkI (by omega) (by omega)) (all_cons (Has.mkI (by omega) (by omega)) (all_cons (Has.mkI (by omega) (by omega)) all_nil))
    rintro _ ⟨mo, rfl, mo0, mo1⟩
    simp_arith
    refine pick_wp (by assumption) (by omega) (by omega) (by omega) fun r6 l7 r6a r6b B7 => ?_
    obtain ⟨k, hk⟩ : ∃ k : Nat, (k : Int) = r6 := ⟨r6.toNat, Int.toNat_of_nonneg (by assumption)⟩
    subst hk
    simp_arith
    refine loans_wp (pp := pp) (m := k) B7 (by omega) ht (fun x hx => List.mem_of_mem_take hx) pnd p3 (by omega) (by omega) (by omega) (by omega) k2 fun ls l8 hll hlo hlc B8 => ?_
    simp_arith
    exact q fl gs (pp.take m) pp ls _ ht hris (fun x hx => List.mem_of_mem_take hx) pnd p3 p6 pas (by omega) hlo hlc (B8.mono (by omega))
  · simp_arith
    refine loans_wp (pp := pp) (m := 24) B5 (by omega) ht (fun x hx => List.mem_of_mem_take hx) pnd p3 (by omega) (by omega) (by omega) (by omega) k2 fun ls l8 hll hlo hlc B8 => ?_
    simp_arith
    exact q fl gs (pp.take m) pp ls _ ht hris (fun x hx => List.mem_of_mem_take hx) pnd p3 p6 pas (by omega) hlo hlc (B8.mono (by omega))
end L_k35
namespace L_k35
open PySem PySem.Spec PyProof.Rows L2 PD
local macro_rules | `(tactic| simp_arith [$xs,*]) => `(tactic| try simp only [↓W_eDisp, ↓W_qN, ↓W_qA, ↓W_qJs, ↓W_qJi, ↓W_rt, ↓W_bd, ↓W_eC, ↓W_eV, ↓W_cN, ↓W_cA, ↓W_eP, ↓W_eM, ↓W_eMf, ↓W_ckF, ↓W_ckT, ↓W_eU, ↓W_eUC, ↓W_eTup, ↓W_eLst, ↓W_eDk, ↓W_eDt, ↓W_mB, ↓W_mT, ↓W_mNot, ↓W_mAnd, ↓W_mOr, ↓W_eNot, ↓W_eAnd, ↓W_eOr, ↓W_eIf, ↓W_eTmp, ↓W_eTmpA, ↓W_cNn, ↓W_cAn, ↓W_eTmpL, ↓W_mTmp, ↓W_oN, ↓W_oS, ↓W_eSl, ↓W_eChain, ↓W_sNil, ↓W_sPass, ↓W_sBrk, ↓W_sCnt, ↓W_sRetN, ↓W_sSeq, ↓W_sExp, ↓W_sRet, ↓W_sIf, ↓W_sAsg, ↓W_gsN, ↓W_gsC, ↓W_gT, ↓W_gTl, ↓W_gS, ↓W_sRaise0, ↓W_sRaise1, ↓W_sTryK, ↓W_sCallX, ↓W_hb_im, ↓W_hb_fr, ↓W_hb_bo, ↓W_sPF, ↓W_sPF3, ↓W_sPF4, ↓W_gN_im, ↓W_gN_fr, ↓W_gN_bo, ↓W_frz_im, ↓W_frz_fr, ↓W_frz_bo, ↓W_frzs_nil, ↓W_frzs_cons, ↓W_frzA_nil, ↓W_frzA_t, ↓W_frzA_im, ↓W_frzA_bo, ↓W_callE, ↓W_eCallN, ↓W_eCallF, ↓WO_runF, ↓W_mR1, ↓W_mR2, ↓W_mR3, ↓W_eRev, ↓W_eRev2, ↓W_eRev7, ↓W_eFrz, ↓W_eGetZ, ↓W_eKf, ↓W_eLk, ↓W_mLst, ↓W_mLz, ↓W_mTup, ↓W_mEnum, ↓W_mEnumT, ↓W_mStr, ↓W_mDk, ↓W_mZip, ↓W_sFor, ↓W_sWhl, ↓W_eComp, ↓W_eTupB, ↓W_sAug, ↓W_sAugS, ↓W_eTmpD, ↓W_eTmpU, ↓W_sLkS, ↓W_mDi, ↓W_mZipM, ↓Rw_to4, ↓Rw_from4, ↓W_gT_Fld, ↓W_gT_Gt, ↓W_gT_Lt, ↓W_gT_bD, ↓W_gT_Dn, ↓W_gT_Rw, ↓Fld_i0, ↓Fld_i1, ↓Fld_i2, ↓Fld_i3, ↓Fld_i4, ↓Gt_i0, ↓Gt_i1, ↓Gt_i2, ↓Gt_i3, ↓Lt_i0, ↓Lt_i1, ↓Lt_i2, ↓bD_i0, ↓bD_i1, ↓Dn_i0, ↓Dn_i1, ↓Dn_i2, ↓Dn_i3, ↓Rw_i0, ↓Rw_i1, ↓Rw_i2, ↓Rw_i3, ↓Rw_i4, ↓Rw_i5, ↓Rw_i6, ↓Ter_i0, ↓Ter_i1, FnN_sig, Fk_sem, Fk_sig, exV_im, exV_ex, exOf_ex, exOf_nx, tyF, frK_fr, nxK_nx, lstLF, atomV, WO_map, WO_some, WO_none, WB_true, WB_false, WC_true, goes_nx, goes_ct, goes_bk, goes_rt, cut_nx, cut_bk, cut_ct, cut_rt, puts_nil, puts_cons, List.getElem?_cons_zero, List.getElem?_cons_succ, setO, frzO_eq, Option.map_some, putO, putC, List.set_cons_zero, List.set_cons_succ, mutAtD, only, dropM, mutL, PD.cnts, PD.cnt, Vl.hold, tyT, beq_self_eq_true, small_eq, lessL_eq, decide_true, decide_false, List.length_cons, List.length_nil, mkE, List.replicate_succ, List.replicate_zero, List.cons_append, List.nil_append, outE, retV, ioAll, ioIx, brIx, mutAt, updE, disj, nmOut, Vl.nm, D.nm, D.nmC, nms, Sl.mut, Sl.frz, D.atom, List.map_cons, List.map_nil, wipeE, unwipe, calm_em, calm_im, calm_none, List.all_cons, List.all_nil, Bool.and_true, Bool.true_and, Bool.and_self, Bool.or_true, Bool.or_self, Bool.true_or, Bool.false_or, Bool.or_false, Bool.not_true, Bool.not_false, Bool.and_false, Bool.false_and, List.isEmpty_nil, List.isEmpty_cons, List.nodup_cons, List.nodup_nil, List.not_mem_nil, not_false_eq_true, and_self, List.contains_nil, if_true, if_false, Bool.false_eq_true, ite_true, ite_false, rg1, rg2, rg3_10, revLD, rev2D, rev7D, addND, subND, seqL, seqZ, seqT, zipO, addD, subD, mulD, mulTD, divD, modD, powD, negD, ltD, leD, gtD, geD, lenD, absD, minD, maxD, PD.intD, ixD, isnD, appendD, reverseD, extendD, slD, setD, listD, tupleD, tupleBD, truD, at0, at1, at2, at3, at4, at5, at6, at7, sd0, sd1, sd2, sd3, ixN, Int.cast_ofNat_Int, Int.reduceEq, Int.reduceNe, Int.reduceLT, Int.reduceLE, Int.reduceNeg, Int.reduceAdd, Int.reduceSub, Int.reduceMul, Int.reducePow, Nat.reducePow, Int.reduceToNat, Int.reduceAbs, ne_eq, not_true_eq_false, Nat.zero_add, Nat.add_zero, Nat.reduceAdd, Nat.reduceSub, Nat.reduceLT, Nat.reduceLeDiff, Nat.reduceEqDiff, Nat.reduceMul, i63_0, i63_1, zipMO_lt, zipMO_tl, zipMO_ll, List.flatten_cons, List.flatten_nil, Nat.lt_irrefl, reduceCtorEq, Nat.zero_lt_succ, Nat.reduceSubDiff, Nat.sub_zero, Nat.sub_self, Bool.not_eq_true, Bool.not_eq_false, sig__law_pick, $xs,*])
local macro_rules | `(tactic| simp_arith) => `(tactic| simp_arith [W_cN])
def LnT : Ty := .tup [.int 0 40, .str 8, .str 8, .str 8]
theorem lns_has {ow pp : List Str} {fl : List Fld} {gs : List Gt} {ls : List Ln} (ht : TerrL ow fl gs) (hp : ∀ x ∈ pp, As 7 x) (h : ∀ l ∈ ls, LnOk gs pp l) : ∀ d ∈ ls.map Ln.D, Has LnT d := fun d hd => by
  obtain ⟨l, hl, rfl⟩ := List.mem_map.mp hd
  obtain ⟨d0, d1, ⟨g, hg, e⟩, a, b⟩ := h l hl
  exact Has.mkT (.cons (Has.mkI d0 (by omega)) (.cons (Has.mkS (by rw [← e]; exact (ht.gsh g hg).nm)) (.cons (Has.mkS ((hp _ a).mono (by omega))) (.cons (Has.mkS ((hp _ b).mono (by omega))) .nil))))
theorem terL_has {ow : List Str} {fl : List Fld} {gs : List Gt} (ht : TerrL ow fl gs) (ho : ∀ x ∈ ow, As 8 x) : Has TerT (terD fl gs) :=
  Has.mkT (.cons ⟨_, rfl, by rw [List.length_map]; exact ht.f8, fsh_has ht.fsh⟩ (.cons ⟨_, rfl, by rw [List.length_map]; exact ht.g4, gsh_has ho ht.gsh⟩ .nil))
def HandL : Ty := .un TerT (.lst LnT 24)
theorem repr_hand {ow pp : List Str} {fl : List Fld} {gs : List Gt} {ls : List Ln} (ht : TerrL ow fl gs) (ho : ∀ x ∈ ow, x ∈ pp) (hp : ∀ x ∈ pp, As 7 x) (h : ∀ l ∈ ls, LnOk gs pp l) (hl : ls.length ≤ 24) : ∃ S, reprD [.lst [terD fl gs, .lst (ls.map Ln.D)]] = some (.im (.txt S)) :=
  ⟨_, repr_ok (t := .lst HandL 2) ⟨_, rfl, Nat.le_refl 2, fun e he => by
    rcases List.mem_cons.mp he with rfl | he
    · exact .inl (terL_has ht fun x hx => (hp x (ho x hx)).mono (by omega))
    · rw [List.mem_singleton.mp he]
      exact .inr ⟨_, rfl, by rw [List.length_map]; exact hl, lns_has ht hp h⟩⟩ (by decide) (by decide) (by decide)⟩
end L_k35
namespace L_k35
open PySem PySem.Spec PyProof.Rows L2 PD
local macro_rules | `(tactic| simp_arith [$xs,*]) => `(tactic| try simp only [↓W_eDisp, ↓W_qN, ↓W_qA, ↓W_qJs, ↓W_qJi, ↓W_rt, ↓W_bd, ↓W_eC, ↓W_eV, ↓W_cN, ↓W_cA, ↓W_eP, ↓W_eM, ↓W_eMf, ↓W_ckF, ↓W_ckT, ↓W_eU, ↓W_eUC, ↓W_eTup, ↓W_eLst, ↓W_eDk, ↓W_eDt, ↓W_mB, ↓W_mT, ↓W_mNot, ↓W_mAnd, ↓W_mOr, ↓W_eNot, ↓W_eAnd, ↓W_eOr, ↓W_eIf, ↓W_eTmp, ↓W_eTmpA, ↓W_cNn, ↓W_cAn, ↓W_eTmpL, ↓W_mTmp, ↓W_oN, ↓W_oS, ↓W_eSl, ↓W_eChain, ↓W_sNil, ↓W_sPass, ↓W_sBrk, ↓W_sCnt, ↓W_sRetN, ↓W_sSeq, ↓W_sExp, ↓W_sRet, ↓W_sIf, ↓W_sAsg, ↓W_gsN, ↓W_gsC, ↓W_gT, ↓W_gTl, ↓W_gS, ↓W_sRaise0, ↓W_sRaise1, ↓W_sTryK, ↓W_sCallX, ↓W_hb_im, ↓W_hb_fr, ↓W_hb_bo, ↓W_sPF, ↓W_sPF3, ↓W_sPF4, ↓W_gN_im, ↓W_gN_fr, ↓W_gN_bo, ↓W_frz_im, ↓W_frz_fr, ↓W_frz_bo, ↓W_frzs_nil, ↓W_frzs_cons, ↓W_frzA_nil, ↓W_frzA_t, ↓W_frzA_im, ↓W_frzA_bo, ↓W_callE, ↓W_eCallN, ↓W_eCallF, ↓WO_runF, ↓W_mR1, ↓W_mR2, ↓W_mR3, ↓W_eRev, ↓W_eRev2, ↓W_eRev7, ↓W_eFrz, ↓W_eGetZ, ↓W_eKf, ↓W_eLk, ↓W_mLst, ↓W_mLz, ↓W_mTup, ↓W_mEnum, ↓W_mEnumT, ↓W_mStr, ↓W_mDk, ↓W_mZip, ↓W_sFor, ↓W_sWhl, ↓W_eComp, ↓W_eTupB, ↓W_sAug, ↓W_sAugS, ↓W_eTmpD, ↓W_eTmpU, ↓W_sLkS, ↓W_mDi, ↓W_mZipM, ↓Rw_to4, ↓Rw_from4, ↓W_gT_Fld, ↓W_gT_Gt, ↓W_gT_Lt, ↓W_gT_bD, ↓W_gT_Dn, ↓W_gT_Rw, ↓Fld_i0, ↓Fld_i1, ↓Fld_i2, ↓Fld_i3, ↓Fld_i4, ↓Gt_i0, ↓Gt_i1, ↓Gt_i2, ↓Gt_i3, ↓Lt_i0, ↓Lt_i1, ↓Lt_i2, ↓bD_i0, ↓bD_i1, ↓Dn_i0, ↓Dn_i1, ↓Dn_i2, ↓Dn_i3, ↓Rw_i0, ↓Rw_i1, ↓Rw_i2, ↓Rw_i3, ↓Rw_i4, ↓Rw_i5, ↓Rw_i6, ↓Ter_i0, ↓Ter_i1, FnN_sig, Fk_sem, Fk_sig, exV_im, exV_ex, exOf_ex, exOf_nx, tyF, frK_fr, nxK_nx, lstLF, atomV, WO_map, WO_some, WO_none, WB_true, WB_false, WC_true, goes_nx, goes_ct, goes_bk, goes_rt, cut_nx, cut_bk, cut_ct, cut_rt, puts_nil, puts_cons, List.getElem?_cons_zero, List.getElem?_cons_succ, setO, frzO_eq, Option.map_some, putO, putC, List.set_cons_zero, List.set_cons_succ, mutAtD, only, dropM, mutL, PD.cnts, PD.cnt, Vl.hold, tyT, beq_self_eq_true, small_eq, lessL_eq, decide_true, decide_false, List.length_cons, List.length_nil, mkE, List.replicate_succ, List.replicate_zero, List.cons_append, List.nil_append, outE, retV, ioAll, ioIx, brIx, mutAt, updE, disj, nmOut, Vl.nm, D.nm, D.nmC, nms, Sl.mut, Sl.frz, D.atom, List.map_cons, List.map_nil, wipeE, unwipe, calm_em, calm_im, calm_none, List.all_cons, List.all_nil, Bool.and_true, Bool.true_and, Bool.and_self, Bool.or_true, Bool.or_self, Bool.true_or, Bool.false_or, Bool.or_false, Bool.not_true, Bool.not_false, Bool.and_false, Bool.false_and, List.isEmpty_nil, List.isEmpty_cons, List.nodup_cons, List.nodup_nil, List.not_mem_nil, not_false_eq_true, and_self, List.contains_nil, if_true, if_false, Bool.false_eq_true, ite_true, ite_false, rg1, rg2, rg3_10, revLD, rev2D, rev7D, addND, subND, seqL, seqZ, seqT, zipO, addD, subD, mulD, mulTD, divD, modD, powD, negD, ltD, leD, gtD, geD, lenD, absD, minD, maxD, PD.intD, ixD, isnD, appendD, reverseD, extendD, slD, setD, listD, tupleD, tupleBD, truD, at0, at1, at2, at3, at4, at5, at6, at7, sd0, sd1, sd2, sd3, ixN, Int.cast_ofNat_Int, Int.reduceEq, Int.reduceNe, Int.reduceLT, Int.reduceLE, Int.reduceNeg, Int.reduceAdd, Int.reduceSub, Int.reduceMul, Int.reducePow, Nat.reducePow, Int.reduceToNat, Int.reduceAbs, ne_eq, not_true_eq_false, Nat.zero_add, Nat.add_zero, Nat.reduceAdd, Nat.reduceSub, Nat.reduceLT, Nat.reduceLeDiff, Nat.reduceEqDiff, Nat.reduceMul, i63_0, i63_1, zipMO_lt, zipMO_tl, zipMO_ll, List.flatten_cons, List.flatten_nil, Nat.lt_irrefl, reduceCtorEq, Nat.zero_lt_succ, Nat.reduceSubDiff, Nat.sub_zero, Nat.sub_self, Bool.not_eq_true, Bool.not_eq_false, sig_look_loans, sig_holder_of, sig__law_first_bad, sig__law_holders, sig__law_caught, $xs,*])
local macro_rules | `(tactic| simp_arith) => `(tactic| simp_arith [W_cN])
theorem TerrL.nd_eq {fl : List Fld} {gs : List Gt} {ow : List Str} (ht : TerrL ow fl gs) {g g' : Gt} (h : g ∈ gs) (h' : g' ∈ gs) (e : g.nm = g'.nm) : g = g' := by
  have h1 := filt_one (k := Gt.nm) ht.nd h
  have h2 := filt_one (k := Gt.nm) ht.nd h'
  rw [e, h2] at h1
  exact (List.cons.inj h1).1.symm
/-! ### the first loan whose giver doesn't hold the turn -/
def Gd (gs : List Gt) (ls : List Ln) (i : Nat) : Prop := ∀ l, ls[i]? = some l → ∀ g ∈ gs, g.nm = l.g → holdG g (ls.take i) l.d = l.a
def FB (gs : List Gt) (ls : List Ln) : Option Nat → Prop
  | some i => i < ls.length ∧ (∀ j, j < i → Gd gs ls j) ∧ ¬ Gd gs ls i
  | none => ∀ j, j < ls.length → Gd gs ls j
theorem FB.uniq {gs : List Gt} {ls : List Ln} : ∀ {r r' : Option Nat}, FB gs ls r → FB gs ls r' → r = r'
  | none, none, _, _ => rfl
  | none, some j, h, h' => absurd (h j h'.1) h'.2.2
  | some i, none, h, h' => absurd (h' i h.1) h.2.2
  | some i, some j, h, h' => by
    by_cases h1 : i < j
    · exact absurd (h'.2.1 i h1) h.2.2
    · by_cases h2 : j < i
      · exact absurd (h.2.1 j h2) h'.2.2
      · rw [show i = j by omega]
def optD : Option Nat → D
  | some i => .int (i : Int)
  | none => .non
def looV : Option Nat → Vl
  | some i => .fr (.ex "NotHeld" "place" [.int (i : Int)])
  | none => .im (.bl true)
theorem look_wp {fl : List Fld} {gs : List Gt} {ow pp : List Str} {ls : List Ln} {K : Vl × List D → Prop} (ht : TerrL ow fl gs) (hls : ∀ l ∈ ls, LnOk gs pp l)
    (q : ∀ r, FB gs ls r → K (looV r, [terD fl gs, .lst (ls.map Ln.D)])) : @WO _ (F_look_loans.sem [terD fl gs, .lst (ls.map Ln.D)]) ⟨K⟩ := by
  rw [show F_look_loans.sem = runF [false, false] 4 b_look_loans from rfl]
  simp_arith [b_look_loans, fl_look_loans_1]
  refine W_forE (fun e0 i e => (∀ j, j < i → Gd gs ls j) ∧ ∃ a b, e = puts e0 [(2, a), (3, b)]) ⟨fun j h => absurd h (Nat.not_lt_zero _), _, _, rfl⟩ ?_ ?_
  · rintro i d _ hd ⟨hg, a, b, rfl⟩
    obtain ⟨x, hx, rfl⟩ := enum_get hd
    obtain ⟨l, hli, hlm, rfl⟩ := at_map hx
    obtain ⟨g, hgm, hgn⟩ := (hls l hlm).g
    have hcut : PD.cutD (ls.map Ln.D) none (some (i : Int)) = (ls.take i).map Ln.D := by rw [cut_takeN, List.map_take]
    simp_arith [fb_look_loans_1, Ln.D]
    rw [hcut, ← hgn]
    refine holder_wp ht hgm ?_
    have hiff : Gd gs ls i ↔ holdG g (ls.take i) l.d = l.a := ⟨fun z => z l hli g hgm hgn, fun z l' hl' g' hg' hn' => by
      rw [hli] at hl'
      cases hl'
      rw [show g' = g from ht.nd_eq hg' hgm (hn'.trans hgn.symm)]
      exact z⟩
    simp_arith [neD_str]
    by_cases he : holdG g (ls.take i) l.d = l.a
    · simp_arith [he]
      refine ⟨fun j hj => ?_, _, _, rfl⟩
      by_cases h1 : j < i
      · exact hg j h1
      · rw [show j = i by omega]
        exact hiff.mpr he
    · simp_arith [he]
      exact q (some i) ⟨lt_at hli, hg, fun z => he (hiff.mp z)⟩
  · rintro _ ⟨hg, a, b, rfl⟩
    rw [enum_len, List.length_map] at hg
    simp_arith
    exact q none hg
end L_k35
namespace L_k35
open PySem PySem.Spec PyProof.Rows L2 PD
local macro_rules | `(tactic| simp_arith [$xs,*]) => `(tactic| try simp only [↓W_eDisp, ↓W_qN, ↓W_qA, ↓W_qJs, ↓W_qJi, ↓W_rt, ↓W_bd, ↓W_eC, ↓W_eV, ↓W_cN, ↓W_cA, ↓W_eP, ↓W_eM, ↓W_eMf, ↓W_ckF, ↓W_ckT, ↓W_eU, ↓W_eUC, ↓W_eTup, ↓W_eLst, ↓W_eDk, ↓W_eDt, ↓W_mB, ↓W_mT, ↓W_mNot, ↓W_mAnd, ↓W_mOr, ↓W_eNot, ↓W_eAnd, ↓W_eOr, ↓W_eIf, ↓W_eTmp, ↓W_eTmpA, ↓W_cNn, ↓W_cAn, ↓W_eTmpL, ↓W_mTmp, ↓W_oN, ↓W_oS, ↓W_eSl, ↓W_eChain, ↓W_sNil, ↓W_sPass, ↓W_sBrk, ↓W_sCnt, ↓W_sRetN, ↓W_sSeq, ↓W_sExp, ↓W_sRet, ↓W_sIf, ↓W_sAsg, ↓W_gsN, ↓W_gsC, ↓W_gT, ↓W_gTl, ↓W_gS, ↓W_sRaise0, ↓W_sRaise1, ↓W_sTryK, ↓W_sCallX, ↓W_hb_im, ↓W_hb_fr, ↓W_hb_bo, ↓W_sPF, ↓W_sPF3, ↓W_sPF4, ↓W_gN_im, ↓W_gN_fr, ↓W_gN_bo, ↓W_frz_im, ↓W_frz_fr, ↓W_frz_bo, ↓W_frzs_nil, ↓W_frzs_cons, ↓W_frzA_nil, ↓W_frzA_t, ↓W_frzA_im, ↓W_frzA_bo, ↓W_callE, ↓W_eCallN, ↓W_eCallF, ↓WO_runF, ↓W_mR1, ↓W_mR2, ↓W_mR3, ↓W_eRev, ↓W_eRev2, ↓W_eRev7, ↓W_eFrz, ↓W_eGetZ, ↓W_eKf, ↓W_eLk, ↓W_mLst, ↓W_mLz, ↓W_mTup, ↓W_mEnum, ↓W_mEnumT, ↓W_mStr, ↓W_mDk, ↓W_mZip, ↓W_sFor, ↓W_sWhl, ↓W_eComp, ↓W_eTupB, ↓W_sAug, ↓W_sAugS, ↓W_eTmpD, ↓W_eTmpU, ↓W_sLkS, ↓W_mDi, ↓W_mZipM, ↓Rw_to4, ↓Rw_from4, ↓W_gT_Fld, ↓W_gT_Gt, ↓W_gT_Lt, ↓W_gT_bD, ↓W_gT_Dn, ↓W_gT_Rw, ↓Fld_i0, ↓Fld_i1, ↓Fld_i2, ↓Fld_i3, ↓Fld_i4, ↓Gt_i0, ↓Gt_i1, ↓Gt_i2, ↓Gt_i3, ↓Lt_i0, ↓Lt_i1, ↓Lt_i2, ↓bD_i0, ↓bD_i1, ↓Dn_i0, ↓Dn_i1, ↓Dn_i2, ↓Dn_i3, ↓Rw_i0, ↓Rw_i1, ↓Rw_i2, ↓Rw_i3, ↓Rw_i4, ↓Rw_i5, ↓Rw_i6, ↓Ter_i0, ↓Ter_i1, FnN_sig, Fk_sem, Fk_sig, exV_im, exV_ex, exOf_ex, exOf_nx, tyF, frK_fr, nxK_nx, lstLF, atomV, WO_map, WO_some, WO_none, WB_true, WB_false, WC_true, goes_nx, goes_ct, goes_bk, goes_rt, cut_nx, cut_bk, cut_ct, cut_rt, puts_nil, puts_cons, List.getElem?_cons_zero, List.getElem?_cons_succ, setO, frzO_eq, Option.map_some, putO, putC, List.set_cons_zero, List.set_cons_succ, mutAtD, only, dropM, mutL, PD.cnts, PD.cnt, Vl.hold, tyT, beq_self_eq_true, small_eq, lessL_eq, decide_true, decide_false, List.length_cons, List.length_nil, mkE, List.replicate_succ, List.replicate_zero, List.cons_append, List.nil_append, outE, retV, ioAll, ioIx, brIx, mutAt, updE, disj, nmOut, Vl.nm, D.nm, D.nmC, nms, Sl.mut, Sl.frz, D.atom, List.map_cons, List.map_nil, wipeE, unwipe, calm_em, calm_im, calm_none, List.all_cons, List.all_nil, Bool.and_true, Bool.true_and, Bool.and_self, Bool.or_true, Bool.or_self, Bool.true_or, Bool.false_or, Bool.or_false, Bool.not_true, Bool.not_false, Bool.and_false, Bool.false_and, List.isEmpty_nil, List.isEmpty_cons, List.nodup_cons, List.nodup_nil, List.not_mem_nil, not_false_eq_true, and_self, List.contains_nil, if_true, if_false, Bool.false_eq_true, ite_true, ite_false, rg1, rg2, rg3_10, revLD, rev2D, rev7D, addND, subND, seqL, seqZ, seqT, zipO, addD, subD, mulD, mulTD, divD, modD, powD, negD, ltD, leD, gtD, geD, lenD, absD, minD, maxD, PD.intD, ixD, isnD, appendD, reverseD, extendD, slD, setD, listD, tupleD, tupleBD, truD, at0, at1, at2, at3, at4, at5, at6, at7, sd0, sd1, sd2, sd3, ixN, Int.cast_ofNat_Int, Int.reduceEq, Int.reduceNe, Int.reduceLT, Int.reduceLE, Int.reduceNeg, Int.reduceAdd, Int.reduceSub, Int.reduceMul, Int.reducePow, Nat.reducePow, Int.reduceToNat, Int.reduceAbs, ne_eq, not_true_eq_false, Nat.zero_add, Nat.add_zero, Nat.reduceAdd, Nat.reduceSub, Nat.reduceLT, Nat.reduceLeDiff, Nat.reduceEqDiff, Nat.reduceMul, i63_0, i63_1, zipMO_lt, zipMO_tl, zipMO_ll, List.flatten_cons, List.flatten_nil, Nat.lt_irrefl, reduceCtorEq, Nat.zero_lt_succ, Nat.reduceSubDiff, Nat.sub_zero, Nat.sub_self, Bool.not_eq_true, Bool.not_eq_false, sig_look_loans, sig_holder_of, sig__law_first_bad, sig__law_holders, sig__law_caught, sig__law_pick, sig__law_mix, sig__law_bent, sig__law_place, $xs,*])
local macro_rules | `(tactic| simp_arith) => `(tactic| simp_arith [W_cN])
theorem bad_wp {fl : List Fld} {gs : List Gt} {ow pp : List Str} {ls : List Ln} {K : Vl × List D → Prop} (ht : TerrL ow fl gs) (hls : ∀ l ∈ ls, LnOk gs pp l)
    (q : ∀ r, FB gs ls r → K (.im (optD r), [terD fl gs, .lst (ls.map Ln.D)])) : @WO _ (F__law_first_bad.sem [terD fl gs, .lst (ls.map Ln.D)]) ⟨K⟩ := by
  rw [sem__law_first_bad]
  simp_arith [b__law_first_bad]
  refine holders_wp (ls := []) (pp := pp) ht (fun _ h => (nomatch h)) fun es0 h0 => ?_
  simp_arith [fl__law_first_bad_1]
  refine W_forE (fun e0 i e => ∃ es a b c d f, (∀ j, j < i → Gd gs ls j) ∧ HeldIs gs (ls.take i) es ∧ e = puts e0 [(2, .ow (.dt es)), (3, a), (4, b), (5, c), (6, d), (7, f)]) ⟨es0, _, _, _, _, _, fun j h => absurd h (Nat.not_lt_zero _), h0, rfl⟩ ?_ ?_
  · rintro i d _ hd ⟨es, a, b, c, d', f, hg, hH, rfl⟩
    obtain ⟨x, hx, rfl⟩ := enum_get hd
    obtain ⟨l, hli, hlm, rfl⟩ := at_map hx
    have k := hls l hlm
    obtain ⟨g, hgm, hgn⟩ := k.g
    have hget := hH.get g hgm l.d ⟨k.d0, k.d1⟩
    have hix : ixD [.dt es, .tup [.int l.d, .str l.g]] = some (.im (.str (holdG g (ls.take i) l.d))) := by
      rw [ix_dt, ← hgn, hget]
      rfl
    have hix2 : ixD [.tf es, .tup [.int l.d, .str l.g]] = some (.im (.str (holdG g (ls.take i) l.d))) := by
      rw [ix_tf, ← hgn, hget]
      rfl
    have hes := hH.len
    simp_arith [fb__law_first_bad_1, Ln.D, ↓hix, ↓hix2, neD_str]
    have hiff : Gd gs ls i ↔ holdG g (ls.take i) l.d = l.a := ⟨fun z => z l hli g hgm hgn, fun z l' hl' g' hg' hn' => by
      rw [hli] at hl'
      cases hl'
      rw [show g' = g from ht.nd_eq hg' hgm (hn'.trans hgn.symm)]
      exact z⟩
    by_cases he : holdG g (ls.take i) l.d = l.a
    · have hp := hH.lend (l := l) k.g k.d0 k.d1
      rw [← take_snoc hli] at hp
      have g4 := ht.g4
      simp_arith [he, set_dt]
      refine WO_ifd (by omega) ?_
      simp_arith
      refine ⟨_, _, _, _, _, _, fun j hj => ?_, hp, rfl⟩
      by_cases h1 : j < i
      · exact hg j h1
      · rw [show j = i by omega]
        exact hiff.mpr he
    · simp_arith [he]
      exact q (some i) ⟨lt_at hli, hg, fun z => he (hiff.mp z)⟩
  · rintro _ ⟨es, a, b, c, d', f, hg, hH, rfl⟩
    rw [enum_len, List.length_map] at hg
    simp_arith
    exact q none hg
/-- the error caught, None without -/
def cauD : Option Nat → D
  | some i => .ex "NotHeld" "place" [.int (i : Int)]
  | none => .non
theorem caught_wp {fl : List Fld} {gs : List Gt} {ow pp : List Str} {ls : List Ln} {K : Vl × List D → Prop} (ht : TerrL ow fl gs) (hls : ∀ l ∈ ls, LnOk gs pp l)
    (q : ∀ r, FB gs ls r → K (.im (cauD r), [terD fl gs, .lst (ls.map Ln.D)])) : @WO _ ((FnN F__law_caught).sem [terD fl gs, .lst (ls.map Ln.D)]) ⟨K⟩ := by
  obtain ⟨p, hp, r, hr, rfl⟩ := look_wp (K := fun p => ∃ r, FB gs ls r ∧ p = (looV r, [terD fl gs, .lst (ls.map Ln.D)])) ht hls fun r hr => ⟨r, hr, rfl⟩
  have key : F__law_caught.sem [terD fl gs, .lst (ls.map Ln.D)] = some (.im (cauD r), [terD fl gs, .lst (ls.map Ln.D)]) := by
    suffices k : @WO _ (F__law_caught.sem [terD fl gs, .lst (ls.map Ln.D)]) ⟨fun p => p = (.im (cauD r), [terD fl gs, .lst (ls.map Ln.D)])⟩ by
      obtain ⟨p, h, rfl⟩ := k
      exact h
    rw [show F__law_caught.sem = runF [false, false] 4 b__law_caught from rfl]
    cases r with
    | some i =>
      simp_arith [b__law_caught, hp, looV]
      rfl
    | none =>
      simp_arith [b__law_caught, hp, looV]
      rfl
  exact ⟨_, FnN_sem key exV_im, q r hr⟩
end L_k35
namespace L_k35
open PySem PySem.Spec PyProof.Rows L2 PD
local macro_rules | `(tactic| simp_arith [$xs,*]) => `(tactic| try simp only [↓W_eDisp, ↓W_qN, ↓W_qA, ↓W_qJs, ↓W_qJi, ↓W_rt, ↓W_bd, ↓W_eC, ↓W_eV, ↓W_cN, ↓W_cA, ↓W_eP, ↓W_eM, ↓W_eMf, ↓W_ckF, ↓W_ckT, ↓W_eU, ↓W_eUC, ↓W_eTup, ↓W_eLst, ↓W_eDk, ↓W_eDt, ↓W_mB, ↓W_mT, ↓W_mNot, ↓W_mAnd, ↓W_mOr, ↓W_eNot, ↓W_eAnd, ↓W_eOr, ↓W_eIf, ↓W_eTmp, ↓W_eTmpA, ↓W_cNn, ↓W_cAn, ↓W_eTmpL, ↓W_mTmp, ↓W_oN, ↓W_oS, ↓W_eSl, ↓W_eChain, ↓W_sNil, ↓W_sPass, ↓W_sBrk, ↓W_sCnt, ↓W_sRetN, ↓W_sSeq, ↓W_sExp, ↓W_sRet, ↓W_sIf, ↓W_sAsg, ↓W_gsN, ↓W_gsC, ↓W_gT, ↓W_gTl, ↓W_gS, ↓W_sRaise0, ↓W_sRaise1, ↓W_sTryK, ↓W_sCallX, ↓W_hb_im, ↓W_hb_fr, ↓W_hb_bo, ↓W_sPF, ↓W_sPF3, ↓W_sPF4, ↓W_gN_im, ↓W_gN_fr, ↓W_gN_bo, ↓W_frz_im, ↓W_frz_fr, ↓W_frz_bo, ↓W_frzs_nil, ↓W_frzs_cons, ↓W_frzA_nil, ↓W_frzA_t, ↓W_frzA_im, ↓W_frzA_bo, ↓W_callE, ↓W_eCallN, ↓W_eCallF, ↓WO_runF, ↓W_mR1, ↓W_mR2, ↓W_mR3, ↓W_eRev, ↓W_eRev2, ↓W_eRev7, ↓W_eFrz, ↓W_eGetZ, ↓W_eKf, ↓W_eLk, ↓W_mLst, ↓W_mLz, ↓W_mTup, ↓W_mEnum, ↓W_mEnumT, ↓W_mStr, ↓W_mDk, ↓W_mZip, ↓W_sFor, ↓W_sWhl, ↓W_eComp, ↓W_eTupB, ↓W_sAug, ↓W_sAugS, ↓W_eTmpD, ↓W_eTmpU, ↓W_sLkS, ↓W_mDi, ↓W_mZipM, ↓Rw_to4, ↓Rw_from4, ↓W_gT_Fld, ↓W_gT_Gt, ↓W_gT_Lt, ↓W_gT_bD, ↓W_gT_Dn, ↓W_gT_Rw, ↓Fld_i0, ↓Fld_i1, ↓Fld_i2, ↓Fld_i3, ↓Fld_i4, ↓Gt_i0, ↓Gt_i1, ↓Gt_i2, ↓Gt_i3, ↓Lt_i0, ↓Lt_i1, ↓Lt_i2, ↓bD_i0, ↓bD_i1, ↓Dn_i0, ↓Dn_i1, ↓Dn_i2, ↓Dn_i3, ↓Rw_i0, ↓Rw_i1, ↓Rw_i2, ↓Rw_i3, ↓Rw_i4, ↓Rw_i5, ↓Rw_i6, ↓Ter_i0, ↓Ter_i1, FnN_sig, Fk_sem, Fk_sig, exV_im, exV_ex, exOf_ex, exOf_nx, tyF, frK_fr, nxK_nx, lstLF, atomV, WO_map, WO_some, WO_none, WB_true, WB_false, WC_true, goes_nx, goes_ct, goes_bk, goes_rt, cut_nx, cut_bk, cut_ct, cut_rt, puts_nil, puts_cons, List.getElem?_cons_zero, List.getElem?_cons_succ, setO, frzO_eq, Option.map_some, putO, putC, List.set_cons_zero, List.set_cons_succ, mutAtD, only, dropM, mutL, PD.cnts, PD.cnt, Vl.hold, tyT, beq_self_eq_true, small_eq, lessL_eq, decide_true, decide_false, List.length_cons, List.length_nil, mkE, List.replicate_succ, List.replicate_zero, List.cons_append, List.nil_append, outE, retV, ioAll, ioIx, brIx, mutAt, updE, disj, nmOut, Vl.nm, D.nm, D.nmC, nms, Sl.mut, Sl.frz, D.atom, List.map_cons, List.map_nil, wipeE, unwipe, calm_em, calm_im, calm_none, List.all_cons, List.all_nil, Bool.and_true, Bool.true_and, Bool.and_self, Bool.or_true, Bool.or_self, Bool.true_or, Bool.false_or, Bool.or_false, Bool.not_true, Bool.not_false, Bool.and_false, Bool.false_and, List.isEmpty_nil, List.isEmpty_cons, List.nodup_cons, List.nodup_nil, List.not_mem_nil, not_false_eq_true, and_self, List.contains_nil, if_true, if_false, Bool.false_eq_true, ite_true, ite_false, rg1, rg2, rg3_10, revLD, rev2D, rev7D, addND, subND, seqL, seqZ, seqT, zipO, addD, subD, mulD, mulTD, divD, modD, powD, negD, ltD, leD, gtD, geD, lenD, absD, minD, maxD, PD.intD, ixD, isnD, appendD, reverseD, extendD, slD, setD, listD, tupleD, tupleBD, truD, at0, at1, at2, at3, at4, at5, at6, at7, sd0, sd1, sd2, sd3, ixN, Int.cast_ofNat_Int, Int.reduceEq, Int.reduceNe, Int.reduceLT, Int.reduceLE, Int.reduceNeg, Int.reduceAdd, Int.reduceSub, Int.reduceMul, Int.reducePow, Nat.reducePow, Int.reduceToNat, Int.reduceAbs, ne_eq, not_true_eq_false, Nat.zero_add, Nat.add_zero, Nat.reduceAdd, Nat.reduceSub, Nat.reduceLT, Nat.reduceLeDiff, Nat.reduceEqDiff, Nat.reduceMul, i63_0, i63_1, zipMO_lt, zipMO_tl, zipMO_ll, List.flatten_cons, List.flatten_nil, Nat.lt_irrefl, reduceCtorEq, Nat.zero_lt_succ, Nat.reduceSubDiff, Nat.sub_zero, Nat.sub_self, Bool.not_eq_true, Bool.not_eq_false, sig__law_pick, sig__law_mix, sig__law_bent, sig__law_place, $xs,*])
local macro_rules | `(tactic| simp_arith) => `(tactic| simp_arith [W_cN])
def NS : List Str := ["NotHeld"]
def MS : List Str := ["BadRow", "Clash", "NoDeed", "NoField", "NoGate", "NoLet", "NoRow", "NoWant", "TooHigh", "TooMuch", "Used", "NotHeld"]
theorem isX_t {ns ms : List Str} {n f : Str} {ds cs : List D} {b : Bool} (h : n ∈ ns ∧ cs.all (clsIs ms) = true) (hb : (cs.any fun c => decide (clsOf c = some n)) = b) : isX ns ms [.ex n f ds, .tup cs] = some (.im (.bl b)) := by
  rw [← hb]
  exact if_pos h
theorem isX_c {ns ms : List Str} {n f m : Str} {ds : List D} {b : Bool} (h : n ∈ ns ∧ m ∈ ms) (hb : decide (n = m) = b) : isX ns ms [.ex n f ds, .cl m] = some (.im (.bl b)) := by
  rw [← hb]
  exact if_pos h
theorem isX_v {ns ms : List Str} {n f : Str} {ds : List D} (h : n ∈ ns ∧ ("ValueError" : String) = "ValueError") : isX ns ms [.ex n f ds, .ty "ValueError"] = some (.im (.bl true)) := if_pos h
theorem atX_i {ns : List Str} {n f : Str} {i : Int} (h : f = f ∧ n ∈ ns) : atX ns f [.ex n f [.int i]] = some (.im (.int i)) := if_pos h
theorem place_sem (i : Int) : F__law_place.sem [.ex "NotHeld" "place" [.int i]] = some (.im (.int i), [.ex "NotHeld" "place" [.int i]]) := by
  suffices k : @WO _ (F__law_place.sem [.ex "NotHeld" "place" [.int i]]) ⟨fun p => p = (.im (.int i), [.ex "NotHeld" "place" [.int i]])⟩ by
    obtain ⟨p, h, rfl⟩ := k
    exact h
  have x1 : isX ["NotHeld"] ["BadRow", "Clash", "NoDeed", "NoField", "NoGate", "NoLet", "NoRow", "NoWant", "TooHigh", "TooMuch", "Used", "NotHeld"] [.ex "NotHeld" "place" [.int i], .tup [.cl "BadRow", .cl "Clash", .cl "NoDeed", .cl "NoField", .cl "NoGate", .cl "NoLet", .cl "NoRow", .cl "NoWant"]] = some (.im (.bl false)) := by
    exact isX_t (by decide +kernel) (by decide +kernel)
  have x2 : isX ["NotHeld"] ["BadRow", "Clash", "NoDeed", "NoField", "NoGate", "NoLet", "NoRow", "NoWant", "TooHigh", "TooMuch", "Used", "NotHeld"] [.ex "NotHeld" "place" [.int i], .tup [.cl "TooHigh", .cl "TooMuch", .cl "Used"]] = some (.im (.bl false)) := by
    exact isX_t (by decide +kernel) (by decide +kernel)
  have x3 : isX ["NotHeld"] ["BadRow", "Clash", "NoDeed", "NoField", "NoGate", "NoLet", "NoRow", "NoWant", "TooHigh", "TooMuch", "Used", "NotHeld"] [.ex "NotHeld" "place" [.int i], .cl "NotHeld"] = some (.im (.bl true)) := by
    exact isX_c (by decide +kernel) (by decide +kernel)
  have x4 : isX ["NotHeld"] ["BadRow", "Clash", "NoDeed", "NoField", "NoGate", "NoLet", "NoRow", "NoWant", "TooHigh", "TooMuch", "Used", "NotHeld"] [.ex "NotHeld" "place" [.int i], .ty "ValueError"] = some (.im (.bl true)) := by
    exact isX_v (by decide +kernel)
  have x5 : atX ["NotHeld"] "place" [.ex "NotHeld" "place" [.int i]] = some (.im (.int i)) := by
    exact atX_i (by decide +kernel)
  rw [show F__law_place.sem = runF [false] 2 b__law_place from rfl]
  simp_arith [b__law_place, x1, x2, x3, x4, x5]
theorem bent_wp {n : Nat} {l : D} {fl : List Fld} {gs : List Gt} {ow pp : List Str} {ls : List Ln} {K : Vl × List D → Prop} (h : Lf n l) (hn : n < 2 ^ 19) (ht : TerrL ow fl gs) (pnd : pp.Nodup) (p3 : 3 ≤ pp.length) (p6 : pp.length ≤ 6) (hls : ∀ l ∈ ls, LnOk gs pp l) (h1 : 1 ≤ ls.length) (h24 : ls.length ≤ 24)
    (q : ∀ (ks : List Ln) (l' : D), (∀ x ∈ ks, LnOk gs pp x) → ks.length ≤ 24 → Lf (n + 10) l' → K (.fr (.lst (ks.map Ln.D)), [l', terD fl gs, .lst (pp.map D.str), .lst (ls.map Ln.D)])) :
    @WO _ (F__law_bent.sem [l, terD fl gs, .lst (pp.map D.str), .lst (ls.map Ln.D)]) ⟨K⟩ := by
  have g1 := ht.g1
  have g4 := ht.g4
  rw [show F__law_bent.sem = runF [true, false, false, false] 13 b__law_bent from rfl]
  simp_arith [b__law_bent, List.length_map]
  refine pick_wp (by assumption) (by omega) (by omega) (by omega) fun r1 l1 r1a r1b B1 => ?_
  simp_arith
  refine pick_wp (by assumption) (by omega) (by omega) (by omega) fun r2 l2 r2a r2b B2 => ?_
  obtain ⟨a, rfl⟩ := Int.eq_ofNat_of_zero_le r1a
  simp_arith
  refine WO_atA Ln.D (by omega) (by rw [← Int.natCast_zero] at *; omega) fun j x ej hx => ?_
  have hx := hls x (List.mem_of_getElem? hx)
  simp_arith [Ln.D, cp__law_bent_1]
  refine W_comp_fltA D.str (fun y => decide (y ≠ x.b)) (fun y => .str y) (fun y hy => ?_) ?_
  · by_cases hz : y = x.b
    · simp_arith [ce__law_bent_1, neD_str, hz, wipeE]
    · simp_arith [ce__law_bent_1, neD_str, hz, wipeE]
  have hot : 1 ≤ (pp.filter fun y => decide (y ≠ x.b)).length := by
    refine Classical.byContradiction fun hc => ?_
    have h0 : pp.filter (fun y => decide (y ≠ x.b)) = [] := List.length_eq_zero_iff.mp (by omega)
    have hall : ∀ y ∈ pp, y ∈ [x.b] := fun y hy => by
      have := List.filter_eq_nil_iff.mp h0 y hy
      simpa using this
    have := nodup_subA pnd hall
    rw [List.length_singleton] at this
    omega
  have hol := List.length_filter_le (fun y => decide (y ≠ x.b)) pp
  have hom : ∀ y ∈ pp.filter (fun y => decide (y ≠ x.b)), y ∈ pp := fun y hy => (List.mem_filter.mp hy).1
  generalize pp.filter (fun y => decide (y ≠ x.b)) = ot at *
  have c1 : PD.cutD (ls.map Ln.D) none (some (a : Int)) = (ls.take a).map Ln.D := by rw [cut_takeN, List.map_take]
  have c2 : PD.cutD (ls.map Ln.D) (some ((a : Int) + 1)) none = (ls.drop (a + 1)).map Ln.D := by
    rw [List.map_drop]
    exact cut_drop (ls.map Ln.D) (a + 1)
  have c3 : PD.cutD (ls.map Ln.D) (some (a : Int)) none = (ls.drop a).map Ln.D := by rw [cut_drop, List.map_drop]
  have c4 : PD.cutD (ls.map Ln.D) (some ((a : Int) + 2)) none = (ls.drop (a + 2)).map Ln.D := by
    rw [List.map_drop]
    exact cut_drop (ls.map Ln.D) (a + 2)
  have c5 : PD.cutD (ls.map Ln.D) (some (a : Int)) (some ((a : Int) + 2)) = ((ls.drop a).take 2).map Ln.D := by
    rw [List.map_take, List.map_drop]
    exact (cut_nat (ls.map Ln.D) a (a + 2)).trans (by rw [Nat.add_sub_cancel_left])
  have c6 : PD.cutD (ls.map Ln.D) (some (a : Int)) (some ((a : Int) + 1)) = ((ls.drop a).take 1).map Ln.D := by
    rw [List.map_take, List.map_drop]
    exact (cut_nat (ls.map Ln.D) a (a + 1)).trans (by rw [Nat.add_sub_cancel_left])
  have mT : ∀ (z : Ln) (k : Nat), z ∈ ls.take k → LnOk gs pp z := fun z k hz => hls z (List.mem_of_mem_take hz)
  have mD : ∀ (z : Ln) (k : Nat), z ∈ ls.drop k → LnOk gs pp z := fun z k hz => hls z (List.mem_of_mem_drop hz)
  have bent : ∀ (xs : List Ln), (∀ z ∈ xs, LnOk gs pp z) → ∀ k, ∀ z ∈ ls.take a ++ xs ++ ls.drop k, LnOk gs pp z := fun xs hxs k z hz => by
    rcases List.mem_append.mp hz with hz | hz
    · rcases List.mem_append.mp hz with hz | hz
      · exact mT z _ hz
      · exact hxs z hz
    · exact mD z _ hz
  have l1' : (ls.take a).length = a := by rw [List.length_take]; omega
  have l2' : (ls.drop (a + 1)).length = ls.length - (a + 1) := List.length_drop ..
  have l3' : (ls.drop a).length = ls.length - a := List.length_drop ..
  have l4' : (ls.drop (a + 2)).length = ls.length - (a + 2) := List.length_drop ..
  have hr2 : r2 = 0 ∨ r2 = 1 ∨ r2 = 2 ∨ r2 = 3 ∨ r2 = 4 := by omega
  simp_arith [List.length_map]
  refine WC_dec (by omega) ?_
  rcases hr2 with rfl | rfl | rfl | rfl | rfl
  · simp_arith [eqD_int, List.length_map]
    refine pick_wp (by assumption) (by omega) (by omega) (by omega) fun r3 l3 r3a r3b B3 => ?_
    simp_arith
    refine WO_atA D.str (by omega) (by omega) fun j2 y ej2 hy => ?_
    have hy := hom y (List.mem_of_getElem? hy)
    simp_arith [c1, c2, List.length_map]
    refine WO_ifd (by omega) ?_
    simp_arith [c1, c2, List.length_append, List.length_map]
    refine WO_ifd (by omega) ?_
    simp_arith
    have e : (ls.take a).map Ln.D ++ [D.tup [.int x.d, .str x.g, .str y, .str x.b]] ++ (ls.drop (a + 1)).map Ln.D = (ls.take a ++ [(⟨x.d, x.g, y, x.b⟩ : Ln)] ++ ls.drop (a + 1)).map Ln.D := by
      rw [List.map_append, List.map_append]
      rfl
    rw [e]
    exact q _ _ (bent _ (fun z hz => by rw [List.mem_singleton.mp hz]; exact ⟨hx.d0, hx.d1, hx.g, hy, hx.b⟩) _) (by rw [List.length_append, List.length_append, l1', l2', List.length_singleton]; omega) (B3.mono (by omega))
  · simp_arith [eqD_int, List.length_map]
    refine pick_wp (by assumption) (by omega) (by omega) (by omega) fun r3 l3 r3a r3b B3 => ?_
    simp_arith
    refine WO_atA Gt.d (by omega) (by omega) fun j2 g2 ej2 hg2 => ?_
    have hg2 := List.mem_of_getElem? hg2
    simp_arith
    refine pick_wp (by assumption) (by omega) (by omega) (by omega) fun r4 l4 r4a r4b B4 => ?_
    simp_arith
    refine pick_wp (by assumption) (by omega) (by omega) (by omega) fun r5 l5 r5a r5b B5 => ?_
    simp_arith
    refine WO_atP (P := fun d => ∃ v : Int, d = .int v ∧ 0 ≤ v ∧ v < 40) ?_ (by omega) (by simp; omega) ?_
    · exact all_cons ⟨x.d, rfl, hx.d0, hx.d1⟩ (all_cons ⟨r4, rfl, r4a, r4b⟩ all_nil)
    rintro _ ⟨v, rfl, v0, v1⟩
    simp_arith [c1, c2, List.length_map]
    refine WO_ifd (by omega) ?_
    simp_arith [c1, c2, List.length_append, List.length_map]
    refine WO_ifd (by omega) ?_
    simp_arith
    have e : (ls.take a).map Ln.D ++ [D.tup [.int v, .str g2.nm, .str x.a, .str x.b]] ++ (ls.drop (a + 1)).map Ln.D = (ls.take a ++ [(⟨v, g2.nm, x.a, x.b⟩ : Ln)] ++ ls.drop (a + 1)).map Ln.D := by
      rw [List.map_append, List.map_append]
      rfl
    rw [e]
    exact q _ _ (bent _ (fun z hz => by rw [List.mem_singleton.mp hz]; exact ⟨v0, v1, ⟨g2, hg2, rfl⟩, hx.a, hx.b⟩) _) (by rw [List.length_append, List.length_append, l1', l2', List.length_singleton]; omega) (B5.mono (by omega))
  · simp_arith [eqD_int, c1, c2, List.length_map]
    refine WO_ifd (by omega) ?_
    simp_arith
    rw [← List.map_append]
    exact q _ _ (fun z hz => (List.mem_append.mp hz).elim (mT z _) (mD z _)) (by rw [List.length_append, l1', l2']; omega) (B2.mono (by omega))
  · have l5' : (((ls.drop a).take 2).reverse).length = if 2 ≤ ls.length - a then 2 else ls.length - a := by
      rw [List.length_reverse, List.length_take, l3']
      split <;> omega
    simp_arith [eqD_int, c1, c4, c5, List.length_map]
    rw [← List.map_reverse]
    simp_arith [List.length_map]
    refine WO_ifd (by rw [l1', l5']; split <;> omega) ?_
    simp_arith [c1, c4, c5, List.length_append, List.length_map]
    refine WO_ifd (by rw [l1', l4', l5']; split <;> omega) ?_
    simp_arith
    rw [← List.map_append, ← List.map_append]
    refine q _ _ (bent _ (fun z hz => mD z a (List.mem_of_mem_take (List.mem_reverse.mp hz))) _) ?_ (B2.mono (by omega))
    rw [List.length_append, List.length_append, l1', l4', l5']
    split <;> omega
  · have l6' : ((ls.drop a).take 1).length ≤ 1 := by
      rw [List.length_take]
      omega
    simp_arith [eqD_int, c1, c3, c6, List.length_map]
    refine WO_ifd (by omega) ?_
    simp_arith [c1, c3, c6, List.length_append, List.length_map]
    refine WO_ifd (by omega) ?_
    rw [← List.map_append, ← List.map_append]
    have c7 : PD.cutD ((ls.take a ++ (ls.drop a).take 1 ++ ls.drop a).map Ln.D) none (some 24) = ((ls.take a ++ (ls.drop a).take 1 ++ ls.drop a).take 24).map Ln.D := by
      rw [List.map_take]
      exact cut_takeN _ 24
    simp_arith [c7]
    exact q _ _ (fun z hz => bent _ (fun z hz => mD z a (List.mem_of_mem_take hz)) _ z (List.mem_of_mem_take hz)) (by rw [List.length_take]; omega) (B2.mono (by omega))
end L_k35
namespace L_k35
open PySem PySem.Spec PyProof.Rows L2 PD
local macro_rules | `(tactic| simp_arith [$xs,*]) => `(tactic| try simp only [↓W_eDisp, ↓W_qN, ↓W_qA, ↓W_qJs, ↓W_qJi, ↓W_rt, ↓W_bd, ↓W_eC, ↓W_eV, ↓W_cN, ↓W_cA, ↓W_eP, ↓W_eM, ↓W_eMf, ↓W_ckF, ↓W_ckT, ↓W_eU, ↓W_eUC, ↓W_eTup, ↓W_eLst, ↓W_eDk, ↓W_eDt, ↓W_mB, ↓W_mT, ↓W_mNot, ↓W_mAnd, ↓W_mOr, ↓W_eNot, ↓W_eAnd, ↓W_eOr, ↓W_eIf, ↓W_eTmp, ↓W_eTmpA, ↓W_cNn, ↓W_cAn, ↓W_eTmpL, ↓W_mTmp, ↓W_oN, ↓W_oS, ↓W_eSl, ↓W_eChain, ↓W_sNil, ↓W_sPass, ↓W_sBrk, ↓W_sCnt, ↓W_sRetN, ↓W_sSeq, ↓W_sExp, ↓W_sRet, ↓W_sIf, ↓W_sAsg, ↓W_gsN, ↓W_gsC, ↓W_gT, ↓W_gTl, ↓W_gS, ↓W_sRaise0, ↓W_sRaise1, ↓W_sTryK, ↓W_sCallX, ↓W_hb_im, ↓W_hb_fr, ↓W_hb_bo, ↓W_sPF, ↓W_sPF3, ↓W_sPF4, ↓W_gN_im, ↓W_gN_fr, ↓W_gN_bo, ↓W_frz_im, ↓W_frz_fr, ↓W_frz_bo, ↓W_frzs_nil, ↓W_frzs_cons, ↓W_frzA_nil, ↓W_frzA_t, ↓W_frzA_im, ↓W_frzA_bo, ↓W_callE, ↓W_eCallN, ↓W_eCallF, ↓WO_runF, ↓W_mR1, ↓W_mR2, ↓W_mR3, ↓W_eRev, ↓W_eRev2, ↓W_eRev7, ↓W_eFrz, ↓W_eGetZ, ↓W_eKf, ↓W_eLk, ↓W_mLst, ↓W_mLz, ↓W_mTup, ↓W_mEnum, ↓W_mEnumT, ↓W_mStr, ↓W_mDk, ↓W_mZip, ↓W_sFor, ↓W_sWhl, ↓W_eComp, ↓W_eTupB, ↓W_sAug, ↓W_sAugS, ↓W_eTmpD, ↓W_eTmpU, ↓W_sLkS, ↓W_mDi, ↓W_mZipM, ↓Rw_to4, ↓Rw_from4, ↓W_gT_Fld, ↓W_gT_Gt, ↓W_gT_Lt, ↓W_gT_bD, ↓W_gT_Dn, ↓W_gT_Rw, ↓Fld_i0, ↓Fld_i1, ↓Fld_i2, ↓Fld_i3, ↓Fld_i4, ↓Gt_i0, ↓Gt_i1, ↓Gt_i2, ↓Gt_i3, ↓Lt_i0, ↓Lt_i1, ↓Lt_i2, ↓bD_i0, ↓bD_i1, ↓Dn_i0, ↓Dn_i1, ↓Dn_i2, ↓Dn_i3, ↓Rw_i0, ↓Rw_i1, ↓Rw_i2, ↓Rw_i3, ↓Rw_i4, ↓Rw_i5, ↓Rw_i6, ↓Ter_i0, ↓Ter_i1, FnN_sig, Fk_sem, Fk_sig, exV_im, exV_ex, exOf_ex, exOf_nx, tyF, frK_fr, nxK_nx, lstLF, atomV, WO_map, WO_some, WO_none, WB_true, WB_false, WC_true, goes_nx, goes_ct, goes_bk, goes_rt, cut_nx, cut_bk, cut_ct, cut_rt, puts_nil, puts_cons, List.getElem?_cons_zero, List.getElem?_cons_succ, setO, frzO_eq, Option.map_some, putO, putC, List.set_cons_zero, List.set_cons_succ, mutAtD, only, dropM, mutL, PD.cnts, PD.cnt, Vl.hold, tyT, beq_self_eq_true, small_eq, lessL_eq, decide_true, decide_false, List.length_cons, List.length_nil, mkE, List.replicate_succ, List.replicate_zero, List.cons_append, List.nil_append, outE, retV, ioAll, ioIx, brIx, mutAt, updE, disj, nmOut, Vl.nm, D.nm, D.nmC, nms, Sl.mut, Sl.frz, D.atom, List.map_cons, List.map_nil, wipeE, unwipe, calm_em, calm_im, calm_none, List.all_cons, List.all_nil, Bool.and_true, Bool.true_and, Bool.and_self, Bool.or_true, Bool.or_self, Bool.true_or, Bool.false_or, Bool.or_false, Bool.not_true, Bool.not_false, Bool.and_false, Bool.false_and, List.isEmpty_nil, List.isEmpty_cons, List.nodup_cons, List.nodup_nil, List.not_mem_nil, not_false_eq_true, and_self, List.contains_nil, if_true, if_false, Bool.false_eq_true, ite_true, ite_false, rg1, rg2, rg3_10, revLD, rev2D, rev7D, addND, subND, seqL, seqZ, seqT, zipO, addD, subD, mulD, mulTD, divD, modD, powD, negD, ltD, leD, gtD, geD, lenD, absD, minD, maxD, PD.intD, ixD, isnD, appendD, reverseD, extendD, slD, setD, listD, tupleD, tupleBD, truD, at0, at1, at2, at3, at4, at5, at6, at7, sd0, sd1, sd2, sd3, ixN, Int.cast_ofNat_Int, Int.reduceEq, Int.reduceNe, Int.reduceLT, Int.reduceLE, Int.reduceNeg, Int.reduceAdd, Int.reduceSub, Int.reduceMul, Int.reducePow, Nat.reducePow, Int.reduceToNat, Int.reduceAbs, ne_eq, not_true_eq_false, Nat.zero_add, Nat.add_zero, Nat.reduceAdd, Nat.reduceSub, Nat.reduceLT, Nat.reduceLeDiff, Nat.reduceEqDiff, Nat.reduceMul, i63_0, i63_1, zipMO_lt, zipMO_tl, zipMO_ll, List.flatten_cons, List.flatten_nil, Nat.lt_irrefl, reduceCtorEq, Nat.zero_lt_succ, Nat.reduceSubDiff, Nat.sub_zero, Nat.sub_self, Bool.not_eq_true, Bool.not_eq_false, sig__law_pick, sig__law_mix, sig__law_left, sig__law_case, sig__law_bent, sig__law_first_bad, sig__law_caught, sig_look_loans, sig__law_place, $xs,*])
local macro_rules | `(tactic| simp_arith) => `(tactic| simp_arith [W_cN])
/-- an error held, its place -/
def hdD (i : Nat) : D := .tup [.ex "NotHeld" "place" [.int (i : Int)], .int (i : Int)]
theorem ne_same (b : Bool) : neD [.bl b, .bl b] = some (.im (.bl false)) := by cases b <;> rfl
theorem isn_tt : isnD [.bl true, .bl true] = some (.im (.bl false)) := rfl
theorem all_trN {α : Type} (l : List α) : allD [.lst (l.map fun _ => D.bl true)] = some (.im (.bl true)) := by
  have h : blsD (l.map fun _ => D.bl true) = some (l.map fun _ => true) := by
    induction l with
    | nil => rfl
    | cons a r ih =>
      show (blsD (r.map fun _ => D.bl true)).map (true :: ·) = _
      rw [ih]
      rfl
  unfold allD
  simp only [h, Option.map_some]
  simp
/-- loans that can be are let by -/
theorem look_ok {fl : List Fld} {gs : List Gt} {ow pp : List Str} {ls : List Ln} (ht : TerrL ow fl gs) (hls : ∀ l ∈ ls, LnOk gs pp l) (h : FB gs ls none) : (FnN F_look_loans).sem [terD fl gs, .lst (ls.map Ln.D)] = some (.im (.bl true), [terD fl gs, .lst (ls.map Ln.D)]) := by
  obtain ⟨p, hp, r, hr, rfl⟩ := look_wp (K := fun p => ∃ r, FB gs ls r ∧ p = (looV r, [terD fl gs, .lst (ls.map Ln.D)])) ht hls fun r hr => ⟨r, hr, rfl⟩
  rw [hr.uniq h] at hp
  exact FnN_sem hp exV_im
theorem LnCh.fb {fl : List Fld} {gs : List Gt} {ow : List Str} {ls : List Ln} (ht : TerrL ow fl gs) (h : LnCh gs ls) : FB gs ls none := fun j hj l hl g hg hn => by
  obtain ⟨g', h1, h2, h3, _⟩ := h j l hl
  rw [show g = g' from ht.nd_eq hg h1 (hn.trans h2.symm)]
  exact h3.symm
theorem sem_law : ∀ ns : List Int, ns.length ≤ 63 → ∃ o, F_law.sem [.sc ns] = some (.im (.bl true), o) := by
  intro ns hns
  suffices key : @WO _ (F_law.sem [.sc ns]) ⟨fun p => ∃ o, p = (.im (.bl true), o)⟩ by
    obtain ⟨p, h, o, rfl⟩ := key
    exact ⟨o, h⟩
  rw [sem_law0]
  simp_arith [b_law, fl_law_3]
  obtain ⟨m, hm, hm1⟩ : ∃ m : Nat, (m : Int) = 1 + (if (ns.length : Int) < 6 then (ns.length : Int) else 6) ∧ m ≤ 7 := by
    refine ⟨(1 + (if (ns.length : Int) < 6 then (ns.length : Int) else 6)).toNat, Int.toNat_of_nonneg (by split <;> omega), ?_⟩
    split <;> omega
  rw [← hm]
  refine WO_if (by exact in62_small (by omega) (by omega)) ?_
  simp_arith
  refine W_forE (fun e0 i e => ∃ a1 a2 a3 a4 a5 a6 a7 a8 a9 a10 a11, calmS (some a9) = true ∧ calmS (some a11) = true ∧ e = [.im (.sc ns), a1, a2, a3, a4, a5, a6, a7, a8, a9, a10, a11]) ⟨_, _, _, _, _, _, _, _, _, _, _, rfl, rfl, rfl⟩ ?_ ?_
  · rintro i _ _ hd ⟨a1, a2, a3, a4, a5, a6, a7, a8, a9, a10, a11, c9, c11, rfl⟩
    obtain ⟨hi, rfl⟩ := rng_get hd
    rw [Int.toNat_natCast] at hi
    simp_arith [fb_law_3]
    refine left_wp (by omega) (by omega) fun l0 B0 => ?_
    simp_arith
    refine pick_wp (by assumption) (by omega) (by omega) (by omega) fun r1 l1 r1a r1b B1 => ?_
    simp_arith [eqD_int]
    refine case_wp B1 (by omega) fun fl gs ow pp ls l2 ht _ hop pnd p3 p6 pas hll hlo hlc B2 => ?_
    have hok := look_ok ht hlo (hlc.fb ht)
    have nnil := neD_nil (t := LnT) (lns_has ht pas hlo) (by decide)
    simp_arith [hok, isn_tt, fl_law_2, nnil]
    have s5 : s64 (5 : Int) = true := by decide
    obtain ⟨c, hc, c5, cn⟩ : ∃ c : Nat, ((5 : Int) * if (!(ls.map Ln.D).isEmpty) = true then 1 else 0) = (c : Int) ∧ c ≤ 5 ∧ (0 < c → 1 ≤ ls.length) := by
      cases ls with
      | nil => exact ⟨0, rfl, by omega, fun h => absurd h (by omega)⟩
      | cons x xs => exact ⟨5, rfl, by omega, fun _ => by simp⟩
    simp_arith [s5, Bool.true_or, hc]
    refine WO_if (by exact in62_small (by omega) (by omega)) ?_
    simp_arith
    refine W_forE (fun e0 t e => ∃ l s7 s8 s9 s10 s11, ∃ hs : List Nat, calmS (some s9) = true ∧ calmS (some s11) = true ∧ hs.length ≤ t ∧ Lf (800 + 30 * t) l ∧ e = puts e0 [(2, .ow l), (3, .ow (.lst (hs.map hdD))), (7, s7), (8, s8), (9, s9), (10, s10), (11, s11)]) ⟨l2, _, _, _, _, _, [], c9, c11, Nat.le_refl _, B2.mono (by omega), rfl⟩ ?_ ?_
    · rintro t _ _ hd2 ⟨l3, s7, s8, s9, s10, s11, hs, k9, k11, hl, B3, rfl⟩
      obtain ⟨htc, rfl⟩ := rng_get hd2
      rw [Int.toNat_natCast] at htc
      have l1 := cn (by omega)
      simp_arith
      rw [fb_law_2]
      refine W_cut2 (fun e0 e' => ∃ l s8, ∃ ks : List Ln, (s8 = .ow (.lst (ks.map Ln.D)) ∨ s8 = .im (.lst (ks.map Ln.D))) ∧ (∀ x ∈ ks, LnOk gs pp x) ∧ ks.length ≤ 24 ∧ Lf (800 + 30 * t + 25) l ∧ e' = puts e0 [(2, .ow l), (8, s8)]) ?_ ?_
      · simp_arith
        refine bent_wp B3 (by omega) ht pnd p3 p6 hlo l1 hll fun ks l4 hk hkl B4 => ?_
        have nk := neD_nil (t := LnT) (lns_has ht pas hk) (by decide)
        simp_arith [nk]
        cases hke : (ks.map Ln.D).isEmpty with
        | true =>
          simp_arith
          exact ⟨l4, _, ks, by first | exact .inl rfl | exact .inr rfl, hk, hkl, B4.mono (by omega), rfl⟩
        | false =>
          have k1 : 1 ≤ ks.length := by
            cases ks with
            | nil => exact nomatch hke
            | cons _ _ => simp
          simp_arith
          refine pick_wp (by assumption) (by omega) (by omega) (by omega) fun r2 l5 r2a r2b B5 => ?_
          simp_arith [eqD_int]
          refine WB_cases' (fun _ => ?_) (fun _ => ?_)
          · simp_arith
            refine bent_wp B5 (by omega) ht pnd p3 p6 hk k1 hkl fun ks2 l6 hk2 hkl2 B6 => ?_
            simp_arith
            exact ⟨l6, _, ks2, by first | exact .inl rfl | exact .inr rfl, hk2, hkl2, B6.mono (by omega), rfl⟩
          · simp_arith
            exact ⟨l5, _, ks, by first | exact .inl rfl | exact .inr rfl, hk, hkl, B5.mono (by omega), rfl⟩
      · rintro _ ⟨l4, s8', ks, h8, hk, hkl, B4, rfl⟩
        obtain ⟨S, hS⟩ := repr_hand ht hop pas hk hkl
        obtain ⟨p, hp, r, hr, rfl⟩ := bad_wp (K := fun p => ∃ r, FB gs ks r ∧ p = (.im (optD r), [terD fl gs, .lst (ks.map Ln.D)])) ht hk fun r hr => ⟨r, hr, rfl⟩
        obtain ⟨p2, hp2, r2, hr2, rfl⟩ := caught_wp (K := fun p => ∃ r, FB gs ks r ∧ p = (.im (cauD r), [terD fl gs, .lst (ks.map Ln.D)])) ht hk fun r hr => ⟨r, hr, rfl⟩
        rw [hr2.uniq hr] at hp2
        rcases h8 with rfl | rfl
        all_goals
          cases r with
          | none =>
            have hok2 := look_ok ht hk hr
            have i1 : isD [.non, .non] = some (.im (.bl true)) := rfl
            have i2 : isnD [.non, .non] = some (.im (.bl false)) := rfl
            simp_arith [hp, hS, hp2, optD, cauD, i1, i2, ne_same, neD_txt, hok2, isn_tt, List.length_map]
            refine WO_ifd (by omega) ?_
            simp_arith [List.append_nil]
            exact ⟨l4, _, _, _, _, _, hs, rfl, rfl, by omega, B4.mono (by omega), rfl⟩
          | some i =>
            have i1 : isD [.ex "NotHeld" "place" [.int (i : Int)], .non] = some (.im (.bl false)) := rfl
            have i2 : isD [.int (i : Int), .non] = some (.im (.bl false)) := rfl
            have i3 : isnD [.ex "NotHeld" "place" [.int (i : Int)], .non] = some (.im (.bl true)) := rfl
            simp_arith [hp, hS, hp2, optD, cauD, i1, i2, i3, ne_same, neD_txt, List.length_map]
            refine WO_ifd (by omega) ?_
            have e : hs.map hdD ++ [D.tup [.ex "NotHeld" "place" [.int (i : Int)], .int (i : Int)]] = (hs ++ [i]).map hdD := by
              rw [List.map_append]
              rfl
            simp_arith [e]
            exact ⟨l4, _, _, _, _, _, hs ++ [i], rfl, rfl, by rw [List.length_append, List.length_singleton]; omega, B4.mono (by omega), rfl⟩
    · rintro _ ⟨l3, s7, s8, s9, s10, s11, hs, k9, k11, hl, B3, rfl⟩
      rw [rng_len, Int.toNat_natCast] at hl
      simp_arith [cp_law_1]
      refine WC_mk (by cases s11 <;> cases s9 <;> first | rfl | exact k11 | exact k9 | (rw [Bool.and_eq_true]; exact ⟨k11, k9⟩)) ?_
      simp_arith
      refine W_comp_mapA hdD (fun _ => .bl true) (fun z hz => ?_) ?_
      · have := place_sem (z : Int)
        simp_arith [hdD, ce_law_1, this, eqD_int]
      simp_arith [List.length_map]
      refine WC_dec (by omega) ?_
      simp_arith [all_trN]
      exact ⟨_, _, _, _, _, _, _, _, _, _, _, by first | exact k9 | rfl, by first | exact k11 | rfl, rfl⟩
  · rintro _ ⟨a1, a2, a3, a4, a5, a6, a7, a8, a9, a10, a11, c9, c11, rfl⟩
    simp_arith
    exact ⟨_, rfl⟩
end L_k35
namespace L_k35
open PySem PySem.Spec PyProof.Rows L2 PD
theorem all_mk {l : PySem.W.OpenLaw} {w : World} {K : PySem.W.Frag} {h : Heap} {mg : Str → Option Value} {fa : Addr} (X : K.In h) (G : h.Ns mainGlobals mg) (hfa : mg "law" = some (.ref fa))
    {f__law_mix f__law_pick f__law_names f__law_terrace f__law_holders f__law_loans f__law_case f__law_left f_gate_row f_right_of f_holder_of f_look_loans f__law_bent f__law_caught f__law_first_bad f__law_place f_law : Addr}
    {od__law_mix an__law_mix od__law_pick an__law_pick od__law_names an__law_names od__law_terrace an__law_terrace od__law_holders an__law_holders od__law_loans an__law_loans od__law_case an__law_case od__law_left an__law_left od_gate_row an_gate_row od_right_of an_right_of od_holder_of an_holder_of od_look_loans an_look_loans od__law_bent an__law_bent od__law_caught an__law_caught od__law_first_bad an__law_first_bad od__law_place an__law_place od_law an_law : Option Addr}
    {sl__law_mix sl__law_pick sl__law_names sl__law_terrace sl__law_holders sl__law_loans sl__law_case sl__law_left sl_gate_row sl_right_of sl_holder_of sl_look_loans sl__law_bent sl__law_caught sl__law_first_bad sl__law_place sl_law : Array (Option Value)}
    {oc__law_mix kV__law_mix dc__law_mix pm__law_mix cd__law_mix ct__law_mix oc__law_pick kV__law_pick dc__law_pick pm__law_pick cd__law_pick ct__law_pick oc__law_names kV__law_names dc__law_names pm__law_names cd__law_names ct__law_names oc__law_terrace kV__law_terrace dc__law_terrace pm__law_terrace cd__law_terrace ct__law_terrace oc__law_holders kV__law_holders dc__law_holders pm__law_holders cd__law_holders ct__law_holders oc__law_loans kV__law_loans dc__law_loans pm__law_loans cd__law_loans ct__law_loans oc__law_case kV__law_case dc__law_case pm__law_case cd__law_case ct__law_case oc__law_left kV__law_left dc__law_left pm__law_left cd__law_left ct__law_left oc_gate_row kV_gate_row dc_gate_row pm_gate_row cd_gate_row ct_gate_row oc_right_of kV_right_of dc_right_of pm_right_of cd_right_of ct_right_of oc_holder_of kV_holder_of dc_holder_of pm_holder_of cd_holder_of ct_holder_of oc_look_loans kV_look_loans dc_look_loans pm_look_loans cd_look_loans ct_look_loans oc__law_bent kV__law_bent dc__law_bent pm__law_bent cd__law_bent ct__law_bent oc__law_caught kV__law_caught dc__law_caught pm__law_caught cd__law_caught ct__law_caught oc__law_first_bad kV__law_first_bad dc__law_first_bad pm__law_first_bad cd__law_first_bad ct__law_first_bad oc__law_place kV__law_place dc__law_place pm__law_place cd__law_place ct__law_place oc_law kV_law dc_law pm_law cd_law ct_law : Value}
    (a__law_mix : PySem.W.nsIn K mainGlobals "_law_mix" = some (some (.ref f__law_mix))) (l__law_mix : K.lookup f__law_mix = some ⟨oc__law_mix, od__law_mix, .func (PySem.W.fnOf "_law_mix" "_law_mix" (defArgs s__law_mix) (defBody s__law_mix) (defScope s__law_mix) .none kV__law_mix dc__law_mix pm__law_mix an__law_mix cd__law_mix ct__law_mix), sl__law_mix⟩) (k__law_mix : PySem.W.codeIn K cd__law_mix "_law_mix" = true) (p__law_mix : PySem.W.keepIn K (.ref f__law_mix) = true)
    (a__law_pick : PySem.W.nsIn K mainGlobals "_law_pick" = some (some (.ref f__law_pick))) (l__law_pick : K.lookup f__law_pick = some ⟨oc__law_pick, od__law_pick, .func (PySem.W.fnOf "_law_pick" "_law_pick" (defArgs s__law_pick) (defBody s__law_pick) (defScope s__law_pick) .none kV__law_pick dc__law_pick pm__law_pick an__law_pick cd__law_pick ct__law_pick), sl__law_pick⟩) (k__law_pick : PySem.W.codeIn K cd__law_pick "_law_pick" = true) (p__law_pick : PySem.W.keepIn K (.ref f__law_pick) = true)
    (a__law_names : PySem.W.nsIn K mainGlobals "_law_names" = some (some (.ref f__law_names))) (l__law_names : K.lookup f__law_names = some ⟨oc__law_names, od__law_names, .func (PySem.W.fnOf "_law_names" "_law_names" (defArgs s__law_names) (defBody s__law_names) (defScope s__law_names) .none kV__law_names dc__law_names pm__law_names an__law_names cd__law_names ct__law_names), sl__law_names⟩) (k__law_names : PySem.W.codeIn K cd__law_names "_law_names" = true) (p__law_names : PySem.W.keepIn K (.ref f__law_names) = true)
    (a__law_terrace : PySem.W.nsIn K mainGlobals "_law_terrace" = some (some (.ref f__law_terrace))) (l__law_terrace : K.lookup f__law_terrace = some ⟨oc__law_terrace, od__law_terrace, .func (PySem.W.fnOf "_law_terrace" "_law_terrace" (defArgs s__law_terrace) (defBody s__law_terrace) (defScope s__law_terrace) .none kV__law_terrace dc__law_terrace pm__law_terrace an__law_terrace cd__law_terrace ct__law_terrace), sl__law_terrace⟩) (k__law_terrace : PySem.W.codeIn K cd__law_terrace "_law_terrace" = true) (p__law_terrace : PySem.W.keepIn K (.ref f__law_terrace) = true)
    (a__law_holders : PySem.W.nsIn K mainGlobals "_law_holders" = some (some (.ref f__law_holders))) (l__law_holders : K.lookup f__law_holders = some ⟨oc__law_holders, od__law_holders, .func (PySem.W.fnOf "_law_holders" "_law_holders" (defArgs s__law_holders) (defBody s__law_holders) (defScope s__law_holders) .none kV__law_holders dc__law_holders pm__law_holders an__law_holders cd__law_holders ct__law_holders), sl__law_holders⟩) (k__law_holders : PySem.W.codeIn K cd__law_holders "_law_holders" = true) (p__law_holders : PySem.W.keepIn K (.ref f__law_holders) = true)
    (a__law_loans : PySem.W.nsIn K mainGlobals "_law_loans" = some (some (.ref f__law_loans))) (l__law_loans : K.lookup f__law_loans = some ⟨oc__law_loans, od__law_loans, .func (PySem.W.fnOf "_law_loans" "_law_loans" (defArgs s__law_loans) (defBody s__law_loans) (defScope s__law_loans) .none kV__law_loans dc__law_loans pm__law_loans an__law_loans cd__law_loans ct__law_loans), sl__law_loans⟩) (k__law_loans : PySem.W.codeIn K cd__law_loans "_law_loans" = true) (p__law_loans : PySem.W.keepIn K (.ref f__law_loans) = true)
    (a__law_case : PySem.W.nsIn K mainGlobals "_law_case" = some (some (.ref f__law_case))) (l__law_case : K.lookup f__law_case = some ⟨oc__law_case, od__law_case, .func (PySem.W.fnOf "_law_case" "_law_case" (defArgs s__law_case) (defBody s__law_case) (defScope s__law_case) .none kV__law_case dc__law_case pm__law_case an__law_case cd__law_case ct__law_case), sl__law_case⟩) (k__law_case : PySem.W.codeIn K cd__law_case "_law_case" = true) (p__law_case : PySem.W.keepIn K (.ref f__law_case) = true)
    (a__law_left : PySem.W.nsIn K mainGlobals "_law_left" = some (some (.ref f__law_left))) (l__law_left : K.lookup f__law_left = some ⟨oc__law_left, od__law_left, .func (PySem.W.fnOf "_law_left" "_law_left" (defArgs s__law_left) (defBody s__law_left) (defScope s__law_left) .none kV__law_left dc__law_left pm__law_left an__law_left cd__law_left ct__law_left), sl__law_left⟩) (k__law_left : PySem.W.codeIn K cd__law_left "_law_left" = true) (p__law_left : PySem.W.keepIn K (.ref f__law_left) = true)
    (a_gate_row : PySem.W.nsIn K mainGlobals "gate_row" = some (some (.ref f_gate_row))) (l_gate_row : K.lookup f_gate_row = some ⟨oc_gate_row, od_gate_row, .func (PySem.W.fnOf "gate_row" "gate_row" (defArgs s_gate_row) (defBody s_gate_row) (defScope s_gate_row) .none kV_gate_row dc_gate_row pm_gate_row an_gate_row cd_gate_row ct_gate_row), sl_gate_row⟩) (k_gate_row : PySem.W.codeIn K cd_gate_row "gate_row" = true) (p_gate_row : PySem.W.keepIn K (.ref f_gate_row) = true)
    (a_right_of : PySem.W.nsIn K mainGlobals "right_of" = some (some (.ref f_right_of))) (l_right_of : K.lookup f_right_of = some ⟨oc_right_of, od_right_of, .func (PySem.W.fnOf "right_of" "right_of" (defArgs s_right_of) (defBody s_right_of) (defScope s_right_of) .none kV_right_of dc_right_of pm_right_of an_right_of cd_right_of ct_right_of), sl_right_of⟩) (k_right_of : PySem.W.codeIn K cd_right_of "right_of" = true) (p_right_of : PySem.W.keepIn K (.ref f_right_of) = true)
    (a_holder_of : PySem.W.nsIn K mainGlobals "holder_of" = some (some (.ref f_holder_of))) (l_holder_of : K.lookup f_holder_of = some ⟨oc_holder_of, od_holder_of, .func (PySem.W.fnOf "holder_of" "holder_of" (defArgs s_holder_of) (defBody s_holder_of) (defScope s_holder_of) .none kV_holder_of dc_holder_of pm_holder_of an_holder_of cd_holder_of ct_holder_of), sl_holder_of⟩) (k_holder_of : PySem.W.codeIn K cd_holder_of "holder_of" = true) (p_holder_of : PySem.W.keepIn K (.ref f_holder_of) = true)
    (a_look_loans : PySem.W.nsIn K mainGlobals "look_loans" = some (some (.ref f_look_loans))) (l_look_loans : K.lookup f_look_loans = some ⟨oc_look_loans, od_look_loans, .func (PySem.W.fnOf "look_loans" "look_loans" (defArgs s_look_loans) (defBody s_look_loans) (defScope s_look_loans) .none kV_look_loans dc_look_loans pm_look_loans an_look_loans cd_look_loans ct_look_loans), sl_look_loans⟩) (k_look_loans : PySem.W.codeIn K cd_look_loans "look_loans" = true) (p_look_loans : PySem.W.keepIn K (.ref f_look_loans) = true)
    (a__law_bent : PySem.W.nsIn K mainGlobals "_law_bent" = some (some (.ref f__law_bent))) (l__law_bent : K.lookup f__law_bent = some ⟨oc__law_bent, od__law_bent, .func (PySem.W.fnOf "_law_bent" "_law_bent" (defArgs s__law_bent) (defBody s__law_bent) (defScope s__law_bent) .none kV__law_bent dc__law_bent pm__law_bent an__law_bent cd__law_bent ct__law_bent), sl__law_bent⟩) (k__law_bent : PySem.W.codeIn K cd__law_bent "_law_bent" = true) (p__law_bent : PySem.W.keepIn K (.ref f__law_bent) = true)
    (a__law_caught : PySem.W.nsIn K mainGlobals "_law_caught" = some (some (.ref f__law_caught))) (l__law_caught : K.lookup f__law_caught = some ⟨oc__law_caught, od__law_caught, .func (PySem.W.fnOf "_law_caught" "_law_caught" (defArgs s__law_caught) (defBody s__law_caught) (defScope s__law_caught) .none kV__law_caught dc__law_caught pm__law_caught an__law_caught cd__law_caught ct__law_caught), sl__law_caught⟩) (k__law_caught : PySem.W.codeIn K cd__law_caught "_law_caught" = true) (p__law_caught : PySem.W.keepIn K (.ref f__law_caught) = true)
    (a__law_first_bad : PySem.W.nsIn K mainGlobals "_law_first_bad" = some (some (.ref f__law_first_bad))) (l__law_first_bad : K.lookup f__law_first_bad = some ⟨oc__law_first_bad, od__law_first_bad, .func (PySem.W.fnOf "_law_first_bad" "_law_first_bad" (defArgs s__law_first_bad) (defBody s__law_first_bad) (defScope s__law_first_bad) .none kV__law_first_bad dc__law_first_bad pm__law_first_bad an__law_first_bad cd__law_first_bad ct__law_first_bad), sl__law_first_bad⟩) (k__law_first_bad : PySem.W.codeIn K cd__law_first_bad "_law_first_bad" = true) (p__law_first_bad : PySem.W.keepIn K (.ref f__law_first_bad) = true)
    (a__law_place : PySem.W.nsIn K mainGlobals "_law_place" = some (some (.ref f__law_place))) (l__law_place : K.lookup f__law_place = some ⟨oc__law_place, od__law_place, .func (PySem.W.fnOf "_law_place" "_law_place" (defArgs s__law_place) (defBody s__law_place) (defScope s__law_place) .none kV__law_place dc__law_place pm__law_place an__law_place cd__law_place ct__law_place), sl__law_place⟩) (k__law_place : PySem.W.codeIn K cd__law_place "_law_place" = true) (p__law_place : PySem.W.keepIn K (.ref f__law_place) = true)
    (a_law : PySem.W.nsIn K mainGlobals "law" = some (some (.ref f_law))) (l_law : K.lookup f_law = some ⟨oc_law, od_law, .func (PySem.W.fnOf "law" "law" (defArgs s_law) (defBody s_law) (defScope s_law) .none kV_law dc_law pm_law an_law cd_law ct_law), sl_law⟩) (k_law : PySem.W.codeIn K cd_law "law" = true) (p_law : PySem.W.keepIn K (.ref f_law) = true)
    (z_ValueError : PySem.W.nsIn K mainGlobals "ValueError" = some none)
    (z_abs : PySem.W.nsIn K mainGlobals "abs" = some none)
    (z_all : PySem.W.nsIn K mainGlobals "all" = some none)
    (z_enumerate : PySem.W.nsIn K mainGlobals "enumerate" = some none)
    (z_int : PySem.W.nsIn K mainGlobals "int" = some none)
    (z_isinstance : PySem.W.nsIn K mainGlobals "isinstance" = some none)
    (z_len : PySem.W.nsIn K mainGlobals "len" = some none)
    (z_list : PySem.W.nsIn K mainGlobals "list" = some none)
    (z_min : PySem.W.nsIn K mainGlobals "min" = some none)
    (z_range : PySem.W.nsIn K mainGlobals "range" = some none)
    (z_repr : PySem.W.nsIn K mainGlobals "repr" = some none)
    (z_set : PySem.W.nsIn K mainGlobals "set" = some none)
    (z_sorted : PySem.W.nsIn K mainGlobals "sorted" = some none)
    (z_tuple : PySem.W.nsIn K mainGlobals "tuple" = some none)
    {C_BadRow C_Clash C_NoDeed C_NoField C_NoGate C_NoLet C_NoRow C_NoWant C_NotHeld C_TooHigh C_TooMuch C_Used C_FieldError : Addr}
    (ac_BadRow : PySem.W.nsIn K mainGlobals "BadRow" = some (some (.ref C_BadRow)))
    (ac_Clash : PySem.W.nsIn K mainGlobals "Clash" = some (some (.ref C_Clash)))
    (ac_NoDeed : PySem.W.nsIn K mainGlobals "NoDeed" = some (some (.ref C_NoDeed)))
    (ac_NoField : PySem.W.nsIn K mainGlobals "NoField" = some (some (.ref C_NoField)))
    (ac_NoGate : PySem.W.nsIn K mainGlobals "NoGate" = some (some (.ref C_NoGate)))
    (ac_NoLet : PySem.W.nsIn K mainGlobals "NoLet" = some (some (.ref C_NoLet)))
    (ac_NoRow : PySem.W.nsIn K mainGlobals "NoRow" = some (some (.ref C_NoRow)))
    (ac_NoWant : PySem.W.nsIn K mainGlobals "NoWant" = some (some (.ref C_NoWant)))
    (ac_NotHeld : PySem.W.nsIn K mainGlobals "NotHeld" = some (some (.ref C_NotHeld)))
    (ac_TooHigh : PySem.W.nsIn K mainGlobals "TooHigh" = some (some (.ref C_TooHigh)))
    (ac_TooMuch : PySem.W.nsIn K mainGlobals "TooMuch" = some (some (.ref C_TooMuch)))
    (ac_Used : PySem.W.nsIn K mainGlobals "Used" = some (some (.ref C_Used)))
    (ac_FieldError : PySem.W.nsIn K mainGlobals "FieldError" = some (some (.ref C_FieldError)))
    (xb_BadRow : PySem.W.subIn K (.ref C_BadRow) (.ref C_FieldError) = some true)
    (xb_Clash : PySem.W.subIn K (.ref C_Clash) (.ref C_FieldError) = some true)
    (xb_NoDeed : PySem.W.subIn K (.ref C_NoDeed) (.ref C_FieldError) = some true)
    (xb_NoField : PySem.W.subIn K (.ref C_NoField) (.ref C_FieldError) = some true)
    (xb_NoGate : PySem.W.subIn K (.ref C_NoGate) (.ref C_FieldError) = some true)
    (xb_NoLet : PySem.W.subIn K (.ref C_NoLet) (.ref C_FieldError) = some true)
    (xb_NoRow : PySem.W.subIn K (.ref C_NoRow) (.ref C_FieldError) = some true)
    (xb_NoWant : PySem.W.subIn K (.ref C_NoWant) (.ref C_FieldError) = some true)
    (xb_NotHeld : PySem.W.subIn K (.ref C_NotHeld) (.ref C_FieldError) = some true)
    (xb_TooHigh : PySem.W.subIn K (.ref C_TooHigh) (.ref C_FieldError) = some true)
    (xb_TooMuch : PySem.W.subIn K (.ref C_TooMuch) (.ref C_FieldError) = some true)
    (xb_Used : PySem.W.subIn K (.ref C_Used) (.ref C_FieldError) = some true)
    (b1 : PySem.W.subIn K (.ref C_FieldError) (.type "BaseException") = some true)
    (b2 : PySem.W.hasDictIn K C_FieldError = true)
    (b3 : PySem.W.typeIn K (.ref C_FieldError) = some (.type "type"))
    (xk_BadRow : PySem.W.keepIn K (.ref C_BadRow) = true)
    (xk_Clash : PySem.W.keepIn K (.ref C_Clash) = true)
    (xk_NoDeed : PySem.W.keepIn K (.ref C_NoDeed) = true)
    (xk_NoField : PySem.W.keepIn K (.ref C_NoField) = true)
    (xk_NoGate : PySem.W.keepIn K (.ref C_NoGate) = true)
    (xk_NoLet : PySem.W.keepIn K (.ref C_NoLet) = true)
    (xk_NoRow : PySem.W.keepIn K (.ref C_NoRow) = true)
    (xk_NoWant : PySem.W.keepIn K (.ref C_NoWant) = true)
    (xk_NotHeld : PySem.W.keepIn K (.ref C_NotHeld) = true)
    (xk_TooHigh : PySem.W.keepIn K (.ref C_TooHigh) = true)
    (xk_TooMuch : PySem.W.keepIn K (.ref C_TooMuch) = true)
    (xk_Used : PySem.W.keepIn K (.ref C_Used) = true)
    (g1 : PySem.W.specialIn K (.builtin "object.__class__") "__get__" = some (some (.builtin "getset_descriptor.__get__")))
    (g2 : PySem.W.takesIn K (.builtin "object.__class__") = some true)
    (f0_NotHeld : PySem.W.isClsIn K C_NotHeld = true)
    (f1_NotHeld : PySem.W.findIn K (.ref C_NotHeld) "__getattribute__" = some (some (.builtin "BaseException.__getattribute__")))
    (f2_NotHeld : PySem.W.findIn K (.ref C_NotHeld) "__getattr__" = some none)
    (f3_NotHeld : PySem.W.subIn K (.ref C_NotHeld) (.type "BaseException") = some true)
    (f4_NotHeld : PySem.W.findIn K (.ref C_NotHeld) "__class__" = some (some (.builtin "object.__class__")))
    (f5_NotHeld : PySem.W.mroIn K C_NotHeld (.type "object") = some true)
    (f6_NotHeld : PySem.W.hasDictIn K C_NotHeld = true)
    (is_NotHeld_BadRow : PySem.W.kitOne K (.ref C_NotHeld) (.ref C_BadRow) = some false)
    (is_NotHeld_Clash : PySem.W.kitOne K (.ref C_NotHeld) (.ref C_Clash) = some false)
    (is_NotHeld_NoDeed : PySem.W.kitOne K (.ref C_NotHeld) (.ref C_NoDeed) = some false)
    (is_NotHeld_NoField : PySem.W.kitOne K (.ref C_NotHeld) (.ref C_NoField) = some false)
    (is_NotHeld_NoGate : PySem.W.kitOne K (.ref C_NotHeld) (.ref C_NoGate) = some false)
    (is_NotHeld_NoLet : PySem.W.kitOne K (.ref C_NotHeld) (.ref C_NoLet) = some false)
    (is_NotHeld_NoRow : PySem.W.kitOne K (.ref C_NotHeld) (.ref C_NoRow) = some false)
    (is_NotHeld_NoWant : PySem.W.kitOne K (.ref C_NotHeld) (.ref C_NoWant) = some false)
    (is_NotHeld_TooHigh : PySem.W.kitOne K (.ref C_NotHeld) (.ref C_TooHigh) = some false)
    (is_NotHeld_TooMuch : PySem.W.kitOne K (.ref C_NotHeld) (.ref C_TooMuch) = some false)
    (is_NotHeld_Used : PySem.W.kitOne K (.ref C_NotHeld) (.ref C_Used) = some false)
    (is_NotHeld_NotHeld : PySem.W.kitOne K (.ref C_NotHeld) (.ref C_NotHeld) = some true)
    (ve_NotHeld : PySem.W.kitOne K (.ref C_NotHeld) (.type "ValueError") = some true)
    (fa_NotHeld_place : PySem.W.findIn K (.ref C_NotHeld) "place" = some none)
    (y1 : PySem.W.specialIn K (.ref C_FieldError) "__getattribute__" = some (some (.builtin "type.__getattribute__")))
    (y2 : PySem.W.readsIn K C_FieldError (.type "type") = true)
    (y3 : PySem.W.findCls K (.ref C_FieldError) (.type "type") "__init__" = some (.val (.builtin "ValueError.__init__")))
    (xs_NotHeld : PySem.W.subIn K (.ref C_NotHeld) (.type "BaseException") = some true)
    (xy_NotHeld : PySem.W.typeIn K (.ref C_NotHeld) = some (.type "type"))
    (xp_NotHeld : PySem.W.keepIn K (.ref C_NotHeld) = true)
    {nm_NotHeld q_NotHeld : Str} {N_NotHeld : Addr} {bs_NotHeld bm_NotHeld : List Value} {sn_NotHeld : List Str} {sb_NotHeld : List Value} {ab_NotHeld : Bool} {co_NotHeld : Option Bool} {dd_NotHeld : Option Addr} {m0_NotHeld m1_NotHeld m2_NotHeld m3_NotHeld m5_NotHeld : Option Value} {fI_NotHeld : Addr} {io_NotHeld in_NotHeld : Option Addr} {is_NotHeld : Array (Option Value)} {ic_NotHeld ik_NotHeld id_NotHeld im_NotHeld iv_NotHeld it_NotHeld : Value}
    (xl_NotHeld : K.lookup C_NotHeld = some (excClassObj nm_NotHeld q_NotHeld C_NotHeld N_NotHeld bs_NotHeld bm_NotHeld true sn_NotHeld sb_NotHeld ab_NotHeld co_NotHeld dd_NotHeld m0_NotHeld m1_NotHeld m2_NotHeld m3_NotHeld m5_NotHeld "ValueError.__new__"))
    (xr_NotHeld : PySem.HandSPX.refsVE bm_NotHeld = true)
    (xa_NotHeld : PySem.W.findIn K (.ref C_NotHeld) "__setattr__" = some (some (.builtin "object.__setattr__")))
    (xf_NotHeld : PySem.W.findIn K (.ref C_NotHeld) "place" = some none)
    (xi_NotHeld : PySem.W.findIn K (.ref C_NotHeld) "__init__" = some (some (.ref fI_NotHeld)))
    (xj_NotHeld : PySem.W.typeIn K (.ref fI_NotHeld) = some (.type "function"))
    (xm_NotHeld : K.lookup fI_NotHeld = some ⟨ic_NotHeld, io_NotHeld, .func (PySem.W.fnOf "__init__" "NotHeld.__init__" (defArgs si_NotHeld) (defBody si_NotHeld) (defScope si_NotHeld) .none ik_NotHeld id_NotHeld im_NotHeld in_NotHeld iv_NotHeld it_NotHeld), is_NotHeld⟩)
    (xn_NotHeld : PySem.W.codeIn K iv_NotHeld "NotHeld.__init__" = true)
    (xq_NotHeld : PySem.W.keepIn K (.ref fI_NotHeld) = true) :
    ∃ (fd : FuncData) (L : List (Str × Addr)), (∀ (s : Shared) (u : Value), BindsTo s fd ⟨[u], []⟩ [("_law_script", u)]) ∧ ∀ base : Heap, K.In base → base.Ns mainGlobals mg → FnG ⟨l.prog, w, K, mg, base⟩ 6 fa fd ["_law_script"] (@spF ⟨[], clsL L⟩ K F_law) := by
  have e := hfa.symm.trans (PySem.W.mg_of X G a_law)
  cases e
  refine ⟨PySem.W.fnOf "law" "law" (defArgs s_law) (defBody s_law) (defScope s_law) .none kV_law dc_law pm_law an_law cd_law ct_law, [("BadRow", C_BadRow), ("Clash", C_Clash), ("NoDeed", C_NoDeed), ("NoField", C_NoField), ("NoGate", C_NoGate), ("NoLet", C_NoLet), ("NoRow", C_NoRow), ("NoWant", C_NoWant), ("NotHeld", C_NotHeld), ("TooHigh", C_TooHigh), ("TooMuch", C_TooMuch), ("Used", C_Used)], fun s v => .of_eq rfl, fun base _ _ => ?_⟩
  letI : TabL := ⟨[], clsL [("BadRow", C_BadRow), ("Clash", C_Clash), ("NoDeed", C_NoDeed), ("NoField", C_NoField), ("NoGate", C_NoGate), ("NoLet", C_NoLet), ("NoRow", C_NoRow), ("NoWant", C_NoWant), ("NotHeld", C_NotHeld), ("TooHigh", C_TooHigh), ("TooMuch", C_TooMuch), ("Used", C_Used)]⟩
  refine fg_law ⟨?d__law_mix, ?d__law_pick, ?d__law_names, ?d__law_terrace, ?d__law_holders, ?d__law_loans, ?d__law_case, ?d__law_left, ?d_gate_row, ?d_right_of, ?d_holder_of, ?d_look_loans, ?d__law_bent, ?d__law_caught, ?d__law_first_bad, ?d__law_place, ?z_ValueError, ?z_abs, ?z_all, ?z_enumerate, ?z_int, ?z_isinstance, ?z_len, ?z_list, ?z_min, ?z_range, ?z_repr, ?z_set, ?z_sorted, ?z_tuple, ?er_NotHeld, ?xc_FieldError, ?cl_BadRow, ?cl_Clash, ?cl_NoDeed, ?cl_NoField, ?cl_NoGate, ?cl_NoLet, ?cl_NoRow, ?cl_NoWant, ?cl_NotHeld, ?cl_TooHigh, ?cl_TooMuch, ?cl_Used, ?xa_place, ?ei⟩ (fun_mk (st := s_law) l_law k_law p_law)
  case er_NotHeld => exact ⟨C_NotHeld, by rfl, PySem.W.mg_of X G ac_NotHeld, ⟨⟨nm_NotHeld, q_NotHeld, N_NotHeld, bs_NotHeld, bm_NotHeld, sn_NotHeld, sb_NotHeld, ab_NotHeld, co_NotHeld, dd_NotHeld, m0_NotHeld, m1_NotHeld, m2_NotHeld, m3_NotHeld, m5_NotHeld, xl_NotHeld, xr_NotHeld⟩, xa_NotHeld, xs_NotHeld, xy_NotHeld, xp_NotHeld⟩, xf_NotHeld, fI_NotHeld, _, _, xi_NotHeld, xj_NotHeld, init_ok (fun_mk (st := si_NotHeld) xm_NotHeld xn_NotHeld xq_NotHeld) ⟨rfl, rfl, rfl, by decide +kernel, rfl, by decide +kernel, by decide +kernel⟩ rfl (by first | exact .inl rfl | exact .inr (.inl rfl) | exact .inr (.inr rfl)) (by first | exact .inl rfl | exact .inr (.inl rfl) | exact .inr (.inr rfl)) (by decide) (by decide) rfl (by decide) (PySem.W.mg_of X G ac_FieldError) ⟨y1, y2, y3⟩ (fun _ => rfl) (fun env he => by cases env; cases he; exact ⟨_, rfl⟩) (fun _ => rfl), (fun_mk (st := si_NotHeld) xm_NotHeld xn_NotHeld xq_NotHeld).binds fun _ _ _ _ _ _ us hl => match us, hl with | [_, _], _ => rfl⟩
  case xc_FieldError => exact ⟨C_FieldError, PySem.W.mg_of X G ac_FieldError, clsL_all (List.forall_mem_cons.mpr ⟨PySem.W.exm_ref b1 b2 b3 xb_BadRow, List.forall_mem_cons.mpr ⟨PySem.W.exm_ref b1 b2 b3 xb_Clash, List.forall_mem_cons.mpr ⟨PySem.W.exm_ref b1 b2 b3 xb_NoDeed, List.forall_mem_cons.mpr ⟨PySem.W.exm_ref b1 b2 b3 xb_NoField, List.forall_mem_cons.mpr ⟨PySem.W.exm_ref b1 b2 b3 xb_NoGate, List.forall_mem_cons.mpr ⟨PySem.W.exm_ref b1 b2 b3 xb_NoLet, List.forall_mem_cons.mpr ⟨PySem.W.exm_ref b1 b2 b3 xb_NoRow, List.forall_mem_cons.mpr ⟨PySem.W.exm_ref b1 b2 b3 xb_NoWant, List.forall_mem_cons.mpr ⟨PySem.W.exm_ref b1 b2 b3 xb_NotHeld, List.forall_mem_cons.mpr ⟨PySem.W.exm_ref b1 b2 b3 xb_TooHigh, List.forall_mem_cons.mpr ⟨PySem.W.exm_ref b1 b2 b3 xb_TooMuch, List.forall_mem_cons.mpr ⟨PySem.W.exm_ref b1 b2 b3 xb_Used, fun _ z => nomatch z⟩⟩⟩⟩⟩⟩⟩⟩⟩⟩⟩⟩)⟩
  case cl_BadRow => exact ⟨C_BadRow, PySem.W.mg_of X G ac_BadRow, by rfl, xk_BadRow⟩
  case cl_Clash => exact ⟨C_Clash, PySem.W.mg_of X G ac_Clash, by rfl, xk_Clash⟩
  case cl_NoDeed => exact ⟨C_NoDeed, PySem.W.mg_of X G ac_NoDeed, by rfl, xk_NoDeed⟩
  case cl_NoField => exact ⟨C_NoField, PySem.W.mg_of X G ac_NoField, by rfl, xk_NoField⟩
  case cl_NoGate => exact ⟨C_NoGate, PySem.W.mg_of X G ac_NoGate, by rfl, xk_NoGate⟩
  case cl_NoLet => exact ⟨C_NoLet, PySem.W.mg_of X G ac_NoLet, by rfl, xk_NoLet⟩
  case cl_NoRow => exact ⟨C_NoRow, PySem.W.mg_of X G ac_NoRow, by rfl, xk_NoRow⟩
  case cl_NoWant => exact ⟨C_NoWant, PySem.W.mg_of X G ac_NoWant, by rfl, xk_NoWant⟩
  case cl_NotHeld => exact ⟨C_NotHeld, PySem.W.mg_of X G ac_NotHeld, by rfl, xk_NotHeld⟩
  case cl_TooHigh => exact ⟨C_TooHigh, PySem.W.mg_of X G ac_TooHigh, by rfl, xk_TooHigh⟩
  case cl_TooMuch => exact ⟨C_TooMuch, PySem.W.mg_of X G ac_TooMuch, by rfl, xk_TooMuch⟩
  case cl_Used => exact ⟨C_Used, PySem.W.mg_of X G ac_Used, by rfl, xk_Used⟩
  case xa_place => exact List.forall_mem_cons.mpr ⟨(fun C e => by cases (show some C_NotHeld = some C from e); exact ⟨⟨f1_NotHeld, f2_NotHeld, f3_NotHeld, f6_NotHeld⟩, fa_NotHeld_place⟩), fun _ z => nomatch z⟩
  case ei => exact ⟨g1, g2, List.forall_mem_cons.mpr ⟨(fun C e => by cases (show some C_NotHeld = some C from e); exact ⟨f0_NotHeld, f1_NotHeld, f2_NotHeld, f3_NotHeld, f4_NotHeld, f5_NotHeld, f6_NotHeld⟩), fun _ z => nomatch z⟩, List.forall_mem_cons.mpr ⟨(List.forall_mem_cons.mpr ⟨(fun C Cm e e2 => by cases (show some C_NotHeld = some C from e); cases (show some C_BadRow = some Cm from e2); exact is_NotHeld_BadRow), List.forall_mem_cons.mpr ⟨(fun C Cm e e2 => by cases (show some C_NotHeld = some C from e); cases (show some C_Clash = some Cm from e2); exact is_NotHeld_Clash), List.forall_mem_cons.mpr ⟨(fun C Cm e e2 => by cases (show some C_NotHeld = some C from e); cases (show some C_NoDeed = some Cm from e2); exact is_NotHeld_NoDeed), List.forall_mem_cons.mpr ⟨(fun C Cm e e2 => by cases (show some C_NotHeld = some C from e); cases (show some C_NoField = some Cm from e2); exact is_NotHeld_NoField), List.forall_mem_cons.mpr ⟨(fun C Cm e e2 => by cases (show some C_NotHeld = some C from e); cases (show some C_NoGate = some Cm from e2); exact is_NotHeld_NoGate), List.forall_mem_cons.mpr ⟨(fun C Cm e e2 => by cases (show some C_NotHeld = some C from e); cases (show some C_NoLet = some Cm from e2); exact is_NotHeld_NoLet), List.forall_mem_cons.mpr ⟨(fun C Cm e e2 => by cases (show some C_NotHeld = some C from e); cases (show some C_NoRow = some Cm from e2); exact is_NotHeld_NoRow), List.forall_mem_cons.mpr ⟨(fun C Cm e e2 => by cases (show some C_NotHeld = some C from e); cases (show some C_NoWant = some Cm from e2); exact is_NotHeld_NoWant), List.forall_mem_cons.mpr ⟨(fun C Cm e e2 => by cases (show some C_NotHeld = some C from e); cases (show some C_TooHigh = some Cm from e2); exact is_NotHeld_TooHigh), List.forall_mem_cons.mpr ⟨(fun C Cm e e2 => by cases (show some C_NotHeld = some C from e); cases (show some C_TooMuch = some Cm from e2); exact is_NotHeld_TooMuch), List.forall_mem_cons.mpr ⟨(fun C Cm e e2 => by cases (show some C_NotHeld = some C from e); cases (show some C_Used = some Cm from e2); exact is_NotHeld_Used), List.forall_mem_cons.mpr ⟨(fun C Cm e e2 => by cases (show some C_NotHeld = some C from e); cases (show some C_NotHeld = some Cm from e2); exact is_NotHeld_NotHeld), fun _ z => nomatch z⟩⟩⟩⟩⟩⟩⟩⟩⟩⟩⟩⟩), fun _ z => nomatch z⟩, List.forall_mem_cons.mpr ⟨(fun C e => by cases (show some C_NotHeld = some C from e); exact ve_NotHeld), fun _ z => nomatch z⟩⟩
  case d__law_mix => exact ⟨f__law_mix, _, PySem.W.mg_of X G a__law_mix, fun_mk (st := s__law_mix) l__law_mix k__law_mix p__law_mix, (fun_mk (st := s__law_mix) l__law_mix k__law_mix p__law_mix).binds fun _ _ _ _ _ _ us hl => match us, hl with | [_, _], _ => rfl⟩
  case d__law_pick => exact ⟨f__law_pick, _, PySem.W.mg_of X G a__law_pick, fun_mk (st := s__law_pick) l__law_pick k__law_pick p__law_pick, (fun_mk (st := s__law_pick) l__law_pick k__law_pick p__law_pick).binds fun _ _ _ _ _ _ us hl => match us, hl with | [_, _], _ => rfl⟩
  case d__law_names => exact ⟨f__law_names, _, PySem.W.mg_of X G a__law_names, fun_mk (st := s__law_names) l__law_names k__law_names p__law_names, (fun_mk (st := s__law_names) l__law_names k__law_names p__law_names).binds fun _ _ _ _ _ _ us hl => match us, hl with | [_, _, _], _ => rfl⟩
  case d__law_terrace => exact ⟨f__law_terrace, _, PySem.W.mg_of X G a__law_terrace, fun_mk (st := s__law_terrace) l__law_terrace k__law_terrace p__law_terrace, (fun_mk (st := s__law_terrace) l__law_terrace k__law_terrace p__law_terrace).binds fun _ _ _ _ _ _ us hl => match us, hl with | [_, _, _], _ => rfl⟩
  case d__law_holders => exact ⟨f__law_holders, _, PySem.W.mg_of X G a__law_holders, fun_mk (st := s__law_holders) l__law_holders k__law_holders p__law_holders, (fun_mk (st := s__law_holders) l__law_holders k__law_holders p__law_holders).binds fun _ _ _ _ _ _ us hl => match us, hl with | [_, _], _ => rfl⟩
  case d__law_loans => exact ⟨f__law_loans, _, PySem.W.mg_of X G a__law_loans, fun_mk (st := s__law_loans) l__law_loans k__law_loans p__law_loans, (fun_mk (st := s__law_loans) l__law_loans k__law_loans p__law_loans).binds fun _ _ _ _ _ _ us hl => match us, hl with | [_, _, _, _, _], _ => rfl⟩
  case d__law_case => exact ⟨f__law_case, _, PySem.W.mg_of X G a__law_case, fun_mk (st := s__law_case) l__law_case k__law_case p__law_case, (fun_mk (st := s__law_case) l__law_case k__law_case p__law_case).binds fun _ _ _ _ _ _ us hl => match us, hl with | [_, _], _ => rfl⟩
  case d__law_left => exact ⟨f__law_left, _, PySem.W.mg_of X G a__law_left, fun_mk (st := s__law_left) l__law_left k__law_left p__law_left, (fun_mk (st := s__law_left) l__law_left k__law_left p__law_left).binds fun _ _ _ _ _ _ us hl => match us, hl with | [_, _], _ => rfl⟩
  case d_gate_row => exact ⟨f_gate_row, _, PySem.W.mg_of X G a_gate_row, fun_mk (st := s_gate_row) l_gate_row k_gate_row p_gate_row, (fun_mk (st := s_gate_row) l_gate_row k_gate_row p_gate_row).binds fun _ _ _ _ _ _ us hl => match us, hl with | [_, _], _ => rfl⟩
  case d_right_of => exact ⟨f_right_of, _, PySem.W.mg_of X G a_right_of, fun_mk (st := s_right_of) l_right_of k_right_of p_right_of, (fun_mk (st := s_right_of) l_right_of k_right_of p_right_of).binds fun _ _ _ _ _ _ us hl => match us, hl with | [_, _, _], _ => rfl⟩
  case d_holder_of => exact ⟨f_holder_of, _, PySem.W.mg_of X G a_holder_of, fun_mk (st := s_holder_of) l_holder_of k_holder_of p_holder_of, (fun_mk (st := s_holder_of) l_holder_of k_holder_of p_holder_of).binds fun _ _ _ _ _ _ us hl => match us, hl with | [_, _, _, _], _ => rfl⟩
  case d_look_loans => exact ⟨f_look_loans, _, PySem.W.mg_of X G a_look_loans, fun_mk (st := s_look_loans) l_look_loans k_look_loans p_look_loans, (fun_mk (st := s_look_loans) l_look_loans k_look_loans p_look_loans).binds fun _ _ _ _ _ _ us hl => match us, hl with | [_, _], _ => rfl⟩
  case d__law_bent => exact ⟨f__law_bent, _, PySem.W.mg_of X G a__law_bent, fun_mk (st := s__law_bent) l__law_bent k__law_bent p__law_bent, (fun_mk (st := s__law_bent) l__law_bent k__law_bent p__law_bent).binds fun _ _ _ _ _ _ us hl => match us, hl with | [_, _, _, _], _ => rfl⟩
  case d__law_caught => exact ⟨f__law_caught, _, PySem.W.mg_of X G a__law_caught, fun_mk (st := s__law_caught) l__law_caught k__law_caught p__law_caught, (fun_mk (st := s__law_caught) l__law_caught k__law_caught p__law_caught).binds fun _ _ _ _ _ _ us hl => match us, hl with | [_, _], _ => rfl⟩
  case d__law_first_bad => exact ⟨f__law_first_bad, _, PySem.W.mg_of X G a__law_first_bad, fun_mk (st := s__law_first_bad) l__law_first_bad k__law_first_bad p__law_first_bad, (fun_mk (st := s__law_first_bad) l__law_first_bad k__law_first_bad p__law_first_bad).binds fun _ _ _ _ _ _ us hl => match us, hl with | [_, _], _ => rfl⟩
  case d__law_place => exact ⟨f__law_place, _, PySem.W.mg_of X G a__law_place, fun_mk (st := s__law_place) l__law_place k__law_place p__law_place, (fun_mk (st := s__law_place) l__law_place k__law_place p__law_place).binds fun _ _ _ _ _ _ us hl => match us, hl with | [_], _ => rfl⟩
  case z_ValueError => exact PySem.W.mg_none_of X G z_ValueError
  case z_abs => exact PySem.W.mg_none_of X G z_abs
  case z_all => exact PySem.W.mg_none_of X G z_all
  case z_enumerate => exact PySem.W.mg_none_of X G z_enumerate
  case z_int => exact PySem.W.mg_none_of X G z_int
  case z_isinstance => exact PySem.W.mg_none_of X G z_isinstance
  case z_len => exact PySem.W.mg_none_of X G z_len
  case z_list => exact PySem.W.mg_none_of X G z_list
  case z_min => exact PySem.W.mg_none_of X G z_min
  case z_range => exact PySem.W.mg_none_of X G z_range
  case z_repr => exact PySem.W.mg_none_of X G z_repr
  case z_set => exact PySem.W.mg_none_of X G z_set
  case z_sorted => exact PySem.W.mg_none_of X G z_sorted
  case z_tuple => exact PySem.W.mg_none_of X G z_tuple
end L_k35
open PySem PySem.W PyProof.Rows
set_option maxHeartbeats 0 in
theorem PySem.Challenge.cw_wetfields_k35_loans_that_can_be_holds : PySem.Challenge.rw_wetfields_k35_loans_that_can_be.Holds := by
  w_on; o_law; k_head; (case hw => w_witness2)
  k_fill
  refine PD.top_walkX (l := PySem.Challenge.rw_wetfields_k35_loans_that_can_be) (n := 63) (k := 6) (x := "_law_script") (F := L_k35.F_law) rfl (by decide) rfl ⟨rfl, by decide, by decide⟩ (fun w h Y => PySem.W.kIn_of Y) ?F rfl L_k35.sem_law
  case F =>
    intro w mg fa h KX G hmg
    refine' L_k35.all_mk KX G hmg ?a__law_mix ?l__law_mix ?k__law_mix ?p__law_mix ?a__law_pick ?l__law_pick ?k__law_pick ?p__law_pick ?a__law_names ?l__law_names ?k__law_names ?p__law_names ?a__law_terrace ?l__law_terrace ?k__law_terrace ?p__law_terrace ?a__law_holders ?l__law_holders ?k__law_holders ?p__law_holders ?a__law_loans ?l__law_loans ?k__law_loans ?p__law_loans ?a__law_case ?l__law_case ?k__law_case ?p__law_case ?a__law_left ?l__law_left ?k__law_left ?p__law_left ?a_gate_row ?l_gate_row ?k_gate_row ?p_gate_row ?a_right_of ?l_right_of ?k_right_of ?p_right_of ?a_holder_of ?l_holder_of ?k_holder_of ?p_holder_of ?a_look_loans ?l_look_loans ?k_look_loans ?p_look_loans ?a__law_bent ?l__law_bent ?k__law_bent ?p__law_bent ?a__law_caught ?l__law_caught ?k__law_caught ?p__law_caught ?a__law_first_bad ?l__law_first_bad ?k__law_first_bad ?p__law_first_bad ?a__law_place ?l__law_place ?k__law_place ?p__law_place ?a_law ?l_law ?k_law ?p_law ?z_ValueError ?z_abs ?z_all ?z_enumerate ?z_int ?z_isinstance ?z_len ?z_list ?z_min ?z_range ?z_repr ?z_set ?z_sorted ?z_tuple ?ac_BadRow ?ac_Clash ?ac_NoDeed ?ac_NoField ?ac_NoGate ?ac_NoLet ?ac_NoRow ?ac_NoWant ?ac_NotHeld ?ac_TooHigh ?ac_TooMuch ?ac_Used ?ac_FieldError ?xb_BadRow ?xb_Clash ?xb_NoDeed ?xb_NoField ?xb_NoGate ?xb_NoLet ?xb_NoRow ?xb_NoWant ?xb_NotHeld ?xb_TooHigh ?xb_TooMuch ?xb_Used ?b1 ?b2 ?b3 ?xk_BadRow ?xk_Clash ?xk_NoDeed ?xk_NoField ?xk_NoGate ?xk_NoLet ?xk_NoRow ?xk_NoWant ?xk_NotHeld ?xk_TooHigh ?xk_TooMuch ?xk_Used ?g1 ?g2 ?f0_NotHeld ?f1_NotHeld ?f2_NotHeld ?f3_NotHeld ?f4_NotHeld ?f5_NotHeld ?f6_NotHeld ?is_NotHeld_BadRow ?is_NotHeld_Clash ?is_NotHeld_NoDeed ?is_NotHeld_NoField ?is_NotHeld_NoGate ?is_NotHeld_NoLet ?is_NotHeld_NoRow ?is_NotHeld_NoWant ?is_NotHeld_TooHigh ?is_NotHeld_TooMuch ?is_NotHeld_Used ?is_NotHeld_NotHeld ?ve_NotHeld ?fa_NotHeld_place ?y1 ?y2 ?y3 ?xs_NotHeld ?xy_NotHeld ?xp_NotHeld ?xl_NotHeld ?xr_NotHeld ?xa_NotHeld ?xf_NotHeld ?xi_NotHeld ?xj_NotHeld ?xm_NotHeld ?xn_NotHeld ?xq_NotHeld
    (case a__law_mix => k_is); (case l__law_mix => k_is); (case k__law_mix => k_is); (case p__law_mix => k_is); (case a__law_pick => k_is); (case l__law_pick => k_is); (case k__law_pick => k_is); (case p__law_pick => k_is); (case a__law_names => k_is); (case l__law_names => k_is); (case k__law_names => k_is); (case p__law_names => k_is); (case a__law_terrace => k_is); (case l__law_terrace => k_is); (case k__law_terrace => k_is); (case p__law_terrace => k_is); (case a__law_holders => k_is); (case l__law_holders => k_is); (case k__law_holders => k_is); (case p__law_holders => k_is); (case a__law_loans => k_is); (case l__law_loans => k_is); (case k__law_loans => k_is); (case p__law_loans => k_is); (case a__law_case => k_is); (case l__law_case => k_is); (case k__law_case => k_is); (case p__law_case => k_is); (case a__law_left => k_is); (case l__law_left => k_is); (case k__law_left => k_is); (case p__law_left => k_is); (case a_gate_row => k_is); (case l_gate_row => k_is); (case k_gate_row => k_is); (case p_gate_row => k_is); (case a_right_of => k_is); (case l_right_of => k_is); (case k_right_of => k_is); (case p_right_of => k_is); (case a_holder_of => k_is); (case l_holder_of => k_is); (case k_holder_of => k_is); (case p_holder_of => k_is); (case a_look_loans => k_is); (case l_look_loans => k_is); (case k_look_loans => k_is); (case p_look_loans => k_is); (case a__law_bent => k_is); (case l__law_bent => k_is); (case k__law_bent => k_is); (case p__law_bent => k_is); (case a__law_caught => k_is); (case l__law_caught => k_is); (case k__law_caught => k_is); (case p__law_caught => k_is); (case a__law_first_bad => k_is); (case l__law_first_bad => k_is); (case k__law_first_bad => k_is); (case p__law_first_bad => k_is); (case a__law_place => k_is); (case l__law_place => k_is); (case k__law_place => k_is); (case p__law_place => k_is); (case a_law => k_is); (case l_law => k_is); (case k_law => k_is); (case p_law => k_is); (case z_ValueError => k_is); (case z_abs => k_is); (case z_all => k_is); (case z_enumerate => k_is); (case z_int => k_is); (case z_isinstance => k_is); (case z_len => k_is); (case z_list => k_is); (case z_min => k_is); (case z_range => k_is); (case z_repr => k_is); (case z_set => k_is); (case z_sorted => k_is); (case z_tuple => k_is); (case ac_BadRow => k_is); (case ac_Clash => k_is); (case ac_NoDeed => k_is); (case ac_NoField => k_is); (case ac_NoGate => k_is); (case ac_NoLet => k_is); (case ac_NoRow => k_is); (case ac_NoWant => k_is); (case ac_NotHeld => k_is); (case ac_TooHigh => k_is); (case ac_TooMuch => k_is); (case ac_Used => k_is); (case ac_FieldError => k_is); (case xb_BadRow => k_is); (case xb_Clash => k_is); (case xb_NoDeed => k_is); (case xb_NoField => k_is); (case xb_NoGate => k_is); (case xb_NoLet => k_is); (case xb_NoRow => k_is); (case xb_NoWant => k_is); (case xb_NotHeld => k_is); (case xb_TooHigh => k_is); (case xb_TooMuch => k_is); (case xb_Used => k_is); (case b1 => k_is); (case b2 => k_is); (case b3 => k_is); (case xk_BadRow => k_is); (case xk_Clash => k_is); (case xk_NoDeed => k_is); (case xk_NoField => k_is); (case xk_NoGate => k_is); (case xk_NoLet => k_is); (case xk_NoRow => k_is); (case xk_NoWant => k_is); (case xk_NotHeld => k_is); (case xk_TooHigh => k_is); (case xk_TooMuch => k_is); (case xk_Used => k_is); (case g1 => k_is); (case g2 => k_is); (case f0_NotHeld => k_is); (case f1_NotHeld => k_is); (case f2_NotHeld => k_is); (case f3_NotHeld => k_is); (case f4_NotHeld => k_is); (case f5_NotHeld => k_is); (case f6_NotHeld => k_is); (case is_NotHeld_BadRow => kit_is); (case is_NotHeld_Clash => kit_is); (case is_NotHeld_NoDeed => kit_is); (case is_NotHeld_NoField => kit_is); (case is_NotHeld_NoGate => kit_is); (case is_NotHeld_NoLet => kit_is); (case is_NotHeld_NoRow => kit_is); (case is_NotHeld_NoWant => kit_is); (case is_NotHeld_TooHigh => kit_is); (case is_NotHeld_TooMuch => kit_is); (case is_NotHeld_Used => kit_is); (case is_NotHeld_NotHeld => kit_is); (case ve_NotHeld => kit_is); (case fa_NotHeld_place => k_is); (case y1 => k_is); (case y2 => k_is); (case y3 => k_is); (case xs_NotHeld => k_is); (case xy_NotHeld => k_is); (case xp_NotHeld => k_is); (case xl_NotHeld => k_is); (case xr_NotHeld => decide +kernel); (case xa_NotHeld => k_is); (case xf_NotHeld => k_is); (case xi_NotHeld => k_is); (case xj_NotHeld => k_is); (case xm_NotHeld => k_is); (case xn_NotHeld => k_is); (case xq_NotHeld => k_is)
