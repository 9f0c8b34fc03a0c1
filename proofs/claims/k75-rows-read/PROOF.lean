import PyProof.Rows.All
import Wide.All
import OpenK.AllK
import Wide.FinOn
import HandS.ForMost
import HandS.Style
import HandS.Zip
import HandS.IsInst
import HandS.TupAny
import HandS.Walk
import HandS.Lambda
import HandS.Exc
import KE.KDictKeyed
import HandS.Wide
import HandS.TupMul
import HandS.Sort
import HandS.Deep
import HandS.RaiseMore
import HandS.Remove
import HandS.SetFor
import HandS.Text
import PyProof.Rows.RegReprOcc
import KE.SortData
import KE.KDictZip
import KE.GoesMore
import HandS.ListItems
import HandS.DictTup
import HandS.Conv
import KE.KDictSum
import KE.KDictPairs
import KE.GoesEnum
import HandS.TryOnly
import HandS.More
import KE.DataMinMax
import PyProof.Rows.SumAny
import HandS.SetKeys
import HandS.TupSets
import HandS.Strs
import HandS.Iter
import KE.DataFind
import PyProof.Rows.IntBool
import KE.SortKeyHeap
import KE.KNestM
import KE.DataCmp
import PyProof.DictMoreH
import KE.DataMinKey
import PyProof.SetRoads
import KE.KEqDict
import HandS.WordsDict
import PyProof.DictUpdate
import PyProof.Rows.FloatCmp
import PyProof.Rows.RuleB_bool
import HandS.ExcInit
import HandS.ExcValue
import OpenK.KCls
import HandS.ExcField
import KE.KExcIs
import HandS.ExcIs
import KE.KDictDisplayH
import KE.KDictWalk
import HandS.MapSum
import PySem.Challenge.RW_wetfields_k75_rows_read
set_option Elab.async false
set_option linter.all false
set_option maxRecDepth 100000
set_option maxHeartbeats 4000000
namespace PD
open PySem PySem.Spec PyProof.Rows L2

/-- a net: what its arcs let through now, the nodes beside each -/
structure NetS where
  W : List (NestedKey × Int)
  Bs : List (List L2.Key × List (List L2.Key))
/-- things that are told by what stands in their cells: a net; the nodes come to, each with the one ahead of it -/
inductive Fo where
  | net (N : NetS)
  | ah (es : List (List L2.Key × Option (List L2.Key)))
/-- plain data -/
inductive D where
  | non | bl (b : Bool) | int (i : Int) | str (x : Str)
  | tup (ds : List D) | lst (ds : List D)
  | dk (es : List (Key × D)) | dt (es : List (List Key × D))
  /-- the script: read, never changed -/
  | sc (ns : List Int)
  /-- an empty list, frozen with its object -/
  | fe
  /-- a built-in class -/
  | ty (n : String)
  /-- a text that is told of data -/
  | txt (x : Str)
  /-- a tuple that is known to have no dict of its own -/
  | tp (ds : List D)
  /-- a dict that is walked: it stays as it is -/
  | kf (es : List (Key × D)) | tf (es : List (List Key × D))
  /-- an error that was caught: its class, its one field's name, what the field holds -/
  | ex (n f : Str) (ds : List D)
  /-- a class of errors -/
  | cl (n : Str)
  /-- a net or the like, read alone -/
  | nt (N : Fo)
  /-- a tuple that the module holds -/
  | kt (n : List L2.Key)

/-- tables of code objects (with the names that they tell): they grow as lambdas are made; the classes of errors by name -/
class TabL where
  T : List (Addr × Str)
  cls : Str → Option Addr := fun _ => none
  /-- the class of books -/
  bkc : Option Addr := none
  /-- the class of nets -/
  ntc : Option (Addr × Program × World) := none
  /-- the module's own tuples -/
  kt : Addr → Option (List L2.Key) := fun _ => none
instance (priority := low) : TabL := ⟨[], fun _ => none, none, none, fun _ => none⟩
variable [TabL]
/-- an error's object, caught -/
def ExK (C : Addr) (d : Option Addr) (a : Addr) : HO := .ext fun h => ∃ (oe : Obj) (vs : Array Value), h.get? a = some oe ∧ Zc (.ref C) d oe ∧ oe.data = .fields vs
def ExAt (B : Hp) (C : Addr) (f : Str) (a : Addr) : List V → Prop
  | [] => B a = some (ExK C none a)
  | [v] => ∃ dd, B a = some (ExK C (some dd) a) ∧ B dd = some (.xd [(f, v)])
  | _ => False
theorem ExAt.mono {B B' : Hp} {C : Addr} {f : Str} {a : Addr} (s : Same B B') : ∀ {vs : List V}, ExAt B C f a vs → ExAt B' C f a vs
  | [], h => s _ _ h
  | [_], ⟨dd, h1, h2⟩ => ⟨dd, s _ _ h1, s _ _ h2⟩
  | _ :: _ :: _, h => h.elim
def keyN : L2.Key → NestedKey
  | .inl i => .num i
  | .inr x => .text x
def ndK (n : List L2.Key) : NestedKey := .tup (n.map keyN)
def k2 (n m : List L2.Key) : NestedKey := .tup [ndK n, ndK m]
def brookN : List L2.Key := [.inr "brook"]
def endN : List L2.Key := [.inr "end"]
/-- a node whose tuple the module holds -/
def isK (n : List L2.Key) : Bool := decide (n = brookN) || decide (n = endN)
/-- the node n is the tuple at p -/
def NdAt (T : Hp) (n : List L2.Key) (p : Addr) : Prop := (isK n = true ∧ TabL.kt p = some n) ∨ (isK n = false ∧ T p = some (.tup (n.map kV)))
def KdAt (T : Hp) (k : NestedKey) (p : Addr) : Prop := ∃ n, k = ndK n ∧ NdAt T n p
def KAt (T : Hp) (k : NestedKey) (p : Addr) : Prop := ∃ (n m : List L2.Key) (p1 p2 : Addr), k = k2 n m ∧ T p = some (.tup [.ref p1, .ref p2]) ∧ NdAt T n p1 ∧ NdAt T m p2
/-- a dict whose keys are nodes or pairs of them -/
def WDc (P : Program) (w : World) (a : Addr) (xs : List (NestedKey × Addr × V)) : HO := .ext fun h => xs.length ≤ sizeLine ∧ (a == sysModules) = false ∧ ∃ us : List (NestedKey × Addr × Value), Paired (fun p q => p.1 = q.1 ∧ p.2.1 = q.2.1 ∧ RelV p.2.2 q.2.2) xs us ∧
  ∃ o es ep, h.get? a = some o ∧ o.ExactDict ∧ o.data = .dict es ep ∧ es.toList = us.map (entryOfKey (nestedKind P w)) ∧ (us.map (·.1)).Nodup
def okN (n : List L2.Key) : Prop := ∀ x, Sum.inr x ∈ n → PyData.strOk x = true
def LstN (T : Hp) (ns : List (List L2.Key)) (vs : List V) : Prop := Paired (fun n v => ∃ p, v = V.ref p ∧ NdAt T n p ∧ okN n) ns vs
/-- what stands beside a node -/
def BesW (G T : Hp) (Bs : List (List L2.Key × List (List L2.Key))) (ys : List (NestedKey × Addr × V)) : Prop := Paired (fun p e => ndK p.1 = e.1 ∧ ∃ l vs, e.2.2 = .ref l ∧ G l = some (.lst vs) ∧ LstN T p.2 vs) Bs ys
def AhV (T : Hp) : Option (List L2.Key) → V → Prop
  | none, v => v = .non
  | some n, v => ∃ p, v = .ref p ∧ NdAt T n p ∧ okN n
def AhW (T : Hp) (es : List (List L2.Key × Option (List L2.Key))) (zs : List (NestedKey × Addr × V)) : Prop := Paired (fun p e => ndK p.1 = e.1 ∧ AhV T p.2 e.2.2) es zs
/-- the net N stands at x: its cells in G, the nodes' tuples in T -/
structure NtW (G T : Hp) (x dx w b : Addr) (xs ys : List (NestedKey × Addr × V)) (ls : List Addr) (N : NetS) : Prop where
  cls : ∃ C P wo, TabL.ntc = some (C, P, wo) ∧ G x = some (.ins C dx [("widths", .ref w), ("beside", .ref b)]) ∧ G w = some (WDc P wo w xs) ∧ G b = some (WDc P wo b ys)
  keys : ∀ e ∈ xs, KAt T e.1 e.2.1
  ws : xs.map (fun e => (e.1, e.2.2)) = N.W.map fun e => (e.1, V.int e.2)
  bkeys : ∀ e ∈ ys, KdAt T e.1 e.2.1
  vals : ys.map (·.2.2) = ls.map V.ref
  nd : ls.Nodup
  ne : w ≠ b
  lsts : BesW G T N.Bs ys
def NtAt (G T : Hp) (x : Addr) : Fo → List Addr → Prop
  | .net N, cells => ∃ dx w b xs ys ls, NtW G T x dx w b xs ys ls N ∧ cells = x :: w :: b :: ls
  | .ah es, cells => ∃ C P wo zs, TabL.ntc = some (C, P, wo) ∧ G x = some (WDc P wo x zs) ∧ (∀ e ∈ zs, KdAt T e.1 e.2.1) ∧ AhW T es zs ∧ cells = [x]
/-- the tuples stay -/
def TupS (T T' : Hp) : Prop := ∀ a ts, T a = some (.tup ts) → T' a = some (.tup ts)
theorem Same.tupS {T T' : Hp} (s : Same T T') : TupS T T' := fun a ts e => s a _ e
theorem NdAt.mono {T T' : Hp} (s : TupS T T') {n : List L2.Key} {p : Addr} (h : NdAt T n p) : NdAt T' n p := h.imp (fun h => h) fun h => ⟨h.1, s _ _ h.2⟩
theorem KdAt.mono {T T' : Hp} (s : TupS T T') {k : NestedKey} {p : Addr} (h : KdAt T k p) : KdAt T' k p := let ⟨n, e, h⟩ := h; ⟨n, e, h.mono s⟩
theorem KAt.mono {T T' : Hp} (s : TupS T T') {k : NestedKey} {p : Addr} (h : KAt T k p) : KAt T' k p := let ⟨n, m, p1, p2, e, e1, e2, e3⟩ := h; ⟨n, m, p1, p2, e, s _ _ e1, e2.mono s, e3.mono s⟩
theorem LstN.mono {T T' : Hp} (s : TupS T T') {ns : List (List L2.Key)} {vs : List V} (h : LstN T ns vs) : LstN T' ns vs := Paired.mapP h fun n v ⟨p, e, q, z⟩ => ⟨p, e, q.mono s, z⟩
theorem AhW.mono {T T' : Hp} (s : TupS T T') {es : List (List L2.Key × Option (List L2.Key))} {zs : List (NestedKey × Addr × V)} (h : AhW T es zs) : AhW T' es zs := Paired.mapP h fun p e ⟨h1, h2⟩ => ⟨h1, by
  match hp : p.2, h2 with
  | none, h2 => exact h2
  | some n, ⟨q, h3, h4, h5⟩ => exact ⟨q, h3, h4.mono s, h5⟩⟩
theorem BesW.mono {G G' T T' : Hp} (s : TupS T T') {Bs : List (List L2.Key × List (List L2.Key))} {ys : List (NestedKey × Addr × V)} {ls : List Addr} (hv : ys.map (·.2.2) = ls.map V.ref) (hg : ∀ a ∈ ls, ∀ o, G a = some o → G' a = some o) (h : BesW G T Bs ys) : BesW G' T' Bs ys := by
  have ml : ∀ {e : NestedKey × Addr × V}, e ∈ ys → ∀ l, e.2.2 = .ref l → l ∈ ls := fun {e0} hp l e => by
    have := List.mem_map_of_mem (f := fun x : NestedKey × Addr × V => x.2.2) hp
    rw [hv] at this
    obtain ⟨l', hl', e'⟩ := List.mem_map.mp this
    have e'' : V.ref l' = V.ref l := e'.trans e
    cases e''
    exact hl'
  have key : ∀ {ps : List (List L2.Key × List (List L2.Key))} {qs : List (NestedKey × Addr × V)}, (∀ q ∈ qs, q ∈ ys) → BesW G T ps qs → BesW G' T' ps qs := by
    intro ps qs hm hp
    unfold BesW at hp ⊢
    induction hp with
    | nil => exact .nil
    | cons h t ih =>
      obtain ⟨e, l, vs, e1, e2, e3⟩ := h
      exact .cons ⟨e, l, vs, e1, hg l (ml (hm _ (List.mem_cons_self ..)) l e1) _ e2, e3.mono s⟩ (ih fun q hq => hm q (List.mem_cons_of_mem _ hq))
  exact key (fun _ hq => hq) h
theorem NtAt.mono {G G' T T' : Hp} {x : Addr} {f : Fo} {cells : List Addr} (h : NtAt G T x f cells) (hg : ∀ a ∈ cells, ∀ o, G a = some o → G' a = some o) (s : TupS T T') : NtAt G' T' x f cells := by
  cases f with
  | net N =>
    obtain ⟨dx, w, b, xs, ys, ls, ⟨⟨C, P, wo, h1, h2, h3, h4⟩, h5, h6, h7, h8, h9, h10, h11⟩, rfl⟩ := h
    exact ⟨dx, w, b, xs, ys, ls, ⟨⟨C, P, wo, h1, hg _ (by simp) _ h2, hg _ (by simp) _ h3, hg _ (by simp) _ h4⟩, fun e he => (h5 e he).mono s, h6, fun e he => (h7 e he).mono s, h8, h9, h10, h11.mono s h8 fun a ha => hg a (by simp [ha])⟩, rfl⟩
  | ah es =>
    obtain ⟨C, P, wo, zs, h1, h2, h3, h4, rfl⟩ := h
    exact ⟨C, P, wo, zs, h1, hg _ (by simp) _ h2, fun e he => (h3 e he).mono s, h4.mono s, rfl⟩
def NtF (B : Hp) (x : Addr) (f : Fo) : Prop := ∃ cells, NtAt B B x f cells
theorem NtF.mono {B B' : Hp} (s : Same B B') {x : Addr} {f : Fo} (h : NtF B x f) : NtF B' x f := by
  obtain ⟨cells, h⟩ := h
  exact ⟨cells, h.mono (fun a _ o e => s a o e) (Same.tupS s)⟩
/-- a tuple that was made -/
def TuT (_ : PySem.W.Frag) (B : Hp) (a : Addr) (xs : List V) : Prop := B a = some (.tup xs)
theorem TuT.sq {K : PySem.W.Frag} {B : Hp} {a : Addr} {xs : List V} (h : TuT K B a xs) : SqT K B a xs := .inl (.inl h)
theorem TuT.same {K : PySem.W.Frag} {B B' : Hp} {a : Addr} {xs : List V} (s : Same B B') (h : TuT K B a xs) : TuT K B' a xs := s _ _ h
mutual
/-- the value v stands for d, all of it in the frozen part B -/
inductive Rp (K : PySem.W.Frag) (B : Hp) : D → V → Prop
  | non : Rp K B .non .non
  | bl (b : Bool) : Rp K B (.bl b) (.bl b)
  | int (i : Int) : Rp K B (.int i) (.int i)
  | str (x : Str) (h : PyData.strOk x = true) : Rp K B (.str x) (.str x)
  | ty (n : String) : Rp K B (.ty n) (.ty n)
  | txt (x : Str) : Rp K B (.txt x) (.str x)
  | tup {a : Addr} {xs : List V} {ds : List D} : TuT K B a xs → Rps K B ds xs → Rp K B (.tup ds) (.ref a)
  | lst {a : Addr} {xs : List V} {ds : List D} : B a = some (.lst xs) → Rps K B ds xs → Rp K B (.lst ds) (.ref a)
  | sc {a : Addr} {ns : List Int} : SqL K B a (ns.map V.int) → Rp K B (.sc ns) (.ref a)
  | fe {a : Addr} {o : Obj} : B a = some (.frz o (.lst [])) → Rp K B .fe (.ref a)
  | tp {a : Addr} {o : Obj} {xs : List V} {ds : List D} : B a = some (.frz o (.tup xs)) → o.dict = none → Rps K B ds xs → Rp K B (.tp ds) (.ref a)
  | dk {a : Addr} {kvs : List (Key × V)} {es : List (Key × D)} : B a = some (.dK kvs) → es.map (·.1) = kvs.map (·.1) → Rps K B (es.map (·.2)) (kvs.map (·.2)) → Rp K B (.dk es) (.ref a)
  | dt {a : Addr} {kvs : List (List Key × V)} {es : List (List Key × D)} : B a = some (.dT kvs) → es.map (·.1) = kvs.map (·.1) → Rps K B (es.map (·.2)) (kvs.map (·.2)) → Rp K B (.dt es) (.ref a)
  | kf {a : Addr} {o : Obj} {kvs : List (Key × V)} {es : List (Key × D)} : B a = some (.frz o (.dK kvs)) → es.map (·.1) = kvs.map (·.1) → Rps K B (es.map (·.2)) (kvs.map (·.2)) → Rp K B (.kf es) (.ref a)
  | tf {a : Addr} {o : Obj} {kvs : List (List Key × V)} {es : List (List Key × D)} : B a = some (.frz o (.dT kvs)) → es.map (·.1) = kvs.map (·.1) → Rps K B (es.map (·.2)) (kvs.map (·.2)) → Rp K B (.tf es) (.ref a)
  | ex {a C : Addr} {n f : Str} {vs : List V} {ds : List D} : TabL.cls n = some C → ExAt B C f a vs → Rps K B ds vs → Rp K B (.ex n f ds) (.ref a)
  | cl {C : Addr} {n : Str} : TabL.cls n = some C → Rp K B (.cl n) (.ref C)
  | nt {x : Addr} {N : Fo} : NtF B x N → Rp K B (.nt N) (.ref x)
  | kt {a : Addr} {n : List L2.Key} : isK n = true → TabL.kt a = some n → Rp K B (.kt n) (.ref a)
inductive Rps (K : PySem.W.Frag) (B : Hp) : List D → List V → Prop
  | nil : Rps K B [] []
  | cons {d : D} {v : V} {ds : List D} {vs : List V} : Rp K B d v → Rps K B ds vs → Rps K B (d :: ds) (v :: vs)
end

theorem sameL {K : PySem.W.Frag} {B B' : Hp} {a : Addr} {xs : List V} (s : Same B B') (h : SqL K B a xs) : SqL K B' a xs := s.seq h
theorem sameT {K : PySem.W.Frag} {B B' : Hp} {a : Addr} {xs : List V} (s : Same B B') (h : SqT K B a xs) : SqT K B' a xs := by
  rcases h with (h | ⟨o, h⟩) | h
  · exact .inl (.inl (s _ _ h))
  · exact .inl (.inr ⟨o, s _ _ h⟩)
  · exact .inr h

mutual
theorem Rp.mono {K : PySem.W.Frag} {B B' : Hp} (s : Same B B') : ∀ {d : D} {v : V}, Rp K B d v → Rp K B' d v
  | _, _, .non => .non
  | _, _, .bl b => .bl b
  | _, _, .int i => .int i
  | _, _, .str x h => .str x h
  | _, _, .ty n => .ty n
  | _, _, .txt x => .txt x
  | _, _, .tup h r => .tup (h.same s) (Rps.mono s r)
  | _, _, .lst h r => .lst (s _ _ h) (Rps.mono s r)
  | _, _, .sc h => .sc (sameL s h)
  | _, _, .fe h => .fe (s _ _ h)
  | _, _, .tp h d r => .tp (s _ _ h) d (Rps.mono s r)
  | _, _, .dk h e r => .dk (s _ _ h) e (Rps.mono s r)
  | _, _, .dt h e r => .dt (s _ _ h) e (Rps.mono s r)
  | _, _, .kf h e r => .kf (s _ _ h) e (Rps.mono s r)
  | _, _, .tf h e r => .tf (s _ _ h) e (Rps.mono s r)
  | _, _, .ex c h r => .ex c (h.mono s) (Rps.mono s r)
  | _, _, .cl c => .cl c
  | _, _, .nt h => .nt (h.mono s)
  | _, _, .kt h e => .kt h e
theorem Rps.mono {K : PySem.W.Frag} {B B' : Hp} (s : Same B B') : ∀ {ds : List D} {vs : List V}, Rps K B ds vs → Rps K B' ds vs
  | _, _, .nil => .nil
  | _, _, .cons h r => .cons (Rp.mono s h) (Rps.mono s r)
end

section
variable {K : PySem.W.Frag} {B : Hp}
theorem Rps.length : ∀ {ds : List D} {vs : List V}, Rps K B ds vs → ds.length = vs.length
  | _, _, .nil => rfl
  | _, _, .cons _ r => by rw [List.length_cons, List.length_cons, Rps.length r]
theorem Rps.get : ∀ {ds : List D} {vs : List V} {i : Nat} {d : D}, Rps K B ds vs → ds[i]? = some d → ∃ v, vs[i]? = some v ∧ Rp K B d v
  | _, _, _, _, .nil, e => by simp at e
  | _, _, 0, _, .cons r _, e => by
    simp at e
    subst e
    exact ⟨_, rfl, r⟩
  | _, _, i + 1, d, .cons _ t, e => by
    obtain ⟨v, h1, h2⟩ := Rps.get (i := i) (d := d) t (by simpa using e)
    exact ⟨v, by simpa using h1, h2⟩
theorem Rps.getV : ∀ {ds : List D} {vs : List V} {i : Nat} {v : V}, Rps K B ds vs → vs[i]? = some v → ∃ d, ds[i]? = some d ∧ Rp K B d v
  | _, _, _, _, .nil, e => by simp at e
  | _, _, 0, _, .cons r _, e => by
    simp at e
    subst e
    exact ⟨_, rfl, r⟩
  | _, _, i + 1, v, .cons _ t, e => by
    obtain ⟨d, h1, h2⟩ := Rps.getV (i := i) (v := v) t (by simpa using e)
    exact ⟨d, by simpa using h1, h2⟩
theorem Rps.app : ∀ {ds es : List D} {vs us : List V}, Rps K B ds vs → Rps K B es us → Rps K B (ds ++ es) (vs ++ us)
  | _, _, _, _, .nil, s => s
  | _, _, _, _, .cons r t, s => .cons r (Rps.app t s)
theorem Rps.take : ∀ {ds : List D} {vs : List V} (n : Nat), Rps K B ds vs → Rps K B (ds.take n) (vs.take n)
  | _, _, 0, _ => .nil
  | _, _, _ + 1, .nil => .nil
  | _, _, n + 1, .cons r t => .cons r (Rps.take n t)
theorem Rps.drop : ∀ {ds : List D} {vs : List V} (n : Nat), Rps K B ds vs → Rps K B (ds.drop n) (vs.drop n)
  | _, _, 0, r => r
  | _, _, _ + 1, .nil => .nil
  | _, _, n + 1, .cons _ t => Rps.drop n t
theorem Rps.set {d : D} {v : V} (r : Rp K B d v) : ∀ {ds : List D} {vs : List V} (i : Nat), Rps K B ds vs → Rps K B (ds.set i d) (vs.set i v)
  | _, _, _, .nil => .nil
  | _, _, 0, .cons _ t => .cons r t
  | _, _, i + 1, .cons q t => .cons q (Rps.set r i t)
theorem Rps.erase : ∀ {ds : List D} {vs : List V} (i : Nat), Rps K B ds vs → Rps K B (ds.eraseIdx i) (vs.eraseIdx i)
  | _, _, _, .nil => .nil
  | _, _, 0, .cons _ t => t
  | _, _, i + 1, .cons q t => .cons q (Rps.erase i t)
theorem Rps.one {d : D} {v : V} (r : Rp K B d v) : Rps K B [d] [v] := .cons r .nil
theorem Rps.repl {ds : List D} {vs : List V} (r : Rps K B ds vs) : ∀ n : Nat, Rps K B (List.replicate n ds).flatten (List.replicate n vs).flatten
  | 0 => .nil
  | n + 1 => by
    rw [List.replicate_succ, List.replicate_succ, List.flatten_cons, List.flatten_cons]
    exact Rps.app r (Rps.repl r n)
theorem Rps.of_ints : ∀ ns : List Int, Rps K B (ns.map D.int) (ns.map V.int)
  | [] => .nil
  | n :: ns => .cons (.int n) (Rps.of_ints ns)
theorem Rps.bls : ∀ {bs : List Bool} {vs : List V}, Rps K B (bs.map D.bl) vs → vs = bs.map V.bl
  | [], _, .nil => rfl
  | n :: ns, _, .cons h r => by
    cases h
    rw [List.map_cons, Rps.bls r]
theorem Rps.strs : ∀ {xs : List Str} {vs : List V}, Rps K B (xs.map D.str) vs → vs = xs.map V.str
  | [], _, .nil => rfl
  | n :: ns, _, .cons h r => by
    cases h
    rw [List.map_cons, Rps.strs r]
end

/-- a book: its terrace, its season, the seasons ahead of each deed -/
structure BkS where
  t : D
  s : D
  ps : List D
inductive Sl where
  /-- nothing known -/
  | em
  /-- frozen data -/
  | im (d : D)
  /-- a list or dict of this def's own, held by this slot alone -/
  | ow (d : D)
  /-- a list or dict of the caller's, handed in to be changed -/
  | io (j : Nat) (d : D)
  /-- a book, the n-th one that this def may change -/
  | bk (n : Nat) (b : BkS)
abbrev Env := List Sl

/-- where a def began: the heap, its frozen part, the caller's things that it may change -/
structure Anc where
  H0 : Hp
  B0 : Hp
  io : Nat → Option Addr
  bk : Nat → Option (Addr × Addr) := fun _ => none
def Anc.isIo (A : Anc) (a : Addr) : Prop := ∃ j, A.io j = some a
/-- a book's fields -/
def bkF (vt vs : V) (l : Addr) : List (Str × V) := [("own_terrace", vt), ("own_season", vs), ("own_past", .ref l)]
/-- the n-th book stands at x, its list at l: there nothing else may change anything -/
def BkAt (A : Anc) (n : Nat) (x l C dx : Addr) (vt vs : V) (vps : List V) : Prop :=
  TabL.bkc = some C ∧ A.bk n = some (x, l) ∧ A.H0 x = some (.ins C dx (bkF vt vs l)) ∧ A.H0 l = some (.lst vps) ∧ ¬ A.isIo x ∧ ¬ A.isIo l ∧ A.B0 x = none ∧ A.B0 l = none ∧ ∀ m x' l', A.bk m = some (x', l') → m ≠ n → x' ≠ x ∧ l' ≠ l

/-- what stands at an address is the container d -/
inductive Cont (K : PySem.W.Frag) (B : Hp) : D → Option HO → Prop
  | lst {xs : List V} {ds : List D} : Rps K B ds xs → Cont K B (.lst ds) (some (.lst xs))
  | dk {kvs : List (Key × V)} {es : List (Key × D)} : es.map (·.1) = kvs.map (·.1) → Rps K B (es.map (·.2)) (kvs.map (·.2)) → Cont K B (.dk es) (some (.dK kvs))
  | dt {kvs : List (List Key × V)} {es : List (List Key × D)} : es.map (·.1) = kvs.map (·.1) → Rps K B (es.map (·.2)) (kvs.map (·.2)) → Cont K B (.dt es) (some (.dT kvs))
theorem Cont.mono {K : PySem.W.Frag} {B B' : Hp} (s : Same B B') {d : D} {o : Option HO} (h : Cont K B d o) : Cont K B' d o := by
  cases h with
  | lst r => exact .lst (r.mono s)
  | dk e r => exact .dk e (r.mono s)
  | dt e r => exact .dt e (r.mono s)
theorem Cont.some {K : PySem.W.Frag} {B : Hp} {d : D} {o : Option HO} (h : Cont K B d o) : ∃ u, o = some u := by
  cases h <;> exact ⟨_, rfl⟩
/-- a tuple's -/
def TuO : HO → Prop
  | .tup _ => True
  | .frz _ (.tup _) => True
  | _ => False
theorem Cont.nu {K : PySem.W.Frag} {B : Hp} {d : D} {o : HO} (h : Cont K B d (Option.some o)) : ¬ TuO o := by
  cases h <;> exact fun z => z
theorem Cont.nt {K : PySem.W.Frag} {B : Hp} {d : D} {o : HO} (h : Cont K B d (Option.some o)) (ts : List V) : o ≠ .tup ts := by
  cases h <;> exact fun z => nomatch z
theorem Cont.frozen {K : PySem.W.Frag} {B B' : Hp} (s : Same B B') {d : D} {o : Option HO} {p : Addr} (h : Cont K B d o) (e : B' p = o) : Rp K B' d (.ref p) := by
  cases h with
  | lst r => exact .lst e (r.mono s)
  | dk e1 r => exact .dk e e1 (r.mono s)
  | dt e1 r => exact .dt e e1 (r.mono s)

abbrev tbA [TabL] : List Addr := TabL.T.map (·.1)
/-- all but the tables -/
def noT (H : Hp) : Hp := fun a => if a ∈ tbA then none else H a
theorem noT_some {H : Hp} {a : Addr} {o : HO} (h : noT H a = some o) : H a = some o := by
  unfold noT at h
  split at h
  · cases h
  · exact h
theorem noT_of {H : Hp} {a : Addr} (n : a ∉ tbA) : noT H a = H a := if_neg n
theorem noT_tab {H : Hp} {p : Addr × Str} (h : p ∈ TabL.T) : noT H p.1 = none := if_pos (List.mem_map.mpr ⟨p, h, rfl⟩)
theorem tab_upd {H : Hp} {P p : Addr} {q : Str} {o : HO} (t : LamX.TabS H P q) (n1 : ∀ ps, H p ≠ some (.tbl ps)) (n2 : ∀ c q, H p ≠ some (LamX.CodeO c q)) : LamX.TabS (upd H p o) P q := by
  obtain ⟨ps, h1, h2, h3⟩ := t
  refine ⟨ps, ?_, h2, fun pos cv hc => ?_⟩
  · rw [upd_ne fun z => n1 ps (by rw [← z]; exact h1)]
    exact h1
  · obtain ⟨c, e1, e2⟩ := h3 pos cv hc
    refine ⟨c, e1, ?_⟩
    rw [upd_ne fun z => n2 _ _ (by rw [← z]; exact e2)]
    exact e2
theorem Cont.ntab {K : PySem.W.Frag} {B : Hp} {d : D} {o : HO} (h : Cont K B d (Option.some o)) : (∀ ps, o ≠ .tbl ps) ∧ ∀ c q, o ≠ LamX.CodeO c q := by
  refine ⟨fun ps z => ?_, fun c q z => ?_⟩
  · subst z
    cases h
  · unfold LamX.CodeO at z
    subst z
    cases h

def Sl.mut : Sl → Bool
  | .ow _ => true
  | .io _ _ => true
  | _ => false
inductive SlOk (K : PySem.W.Frag) (A : Anc) (B H : Hp) : Sl → Option V → Prop
  | em {o : Option V} : SlOk K A B H .em o
  | im {d : D} {v : V} : Rp K B d v → SlOk K A B H (.im d) (some v)
  | ow {d : D} {p : Addr} : B p = none → A.H0 p = none → Cont K B d (H p) → SlOk K A B H (.ow d) (some (.ref p))
  | io {d : D} {p : Addr} {j : Nat} : A.io j = some p → Cont K B d (H p) → SlOk K A B H (.io j d) (some (.ref p))
  | bk {n : Nat} {b : BkS} {x l C dx : Addr} {vt vs : V} {vps : List V} : BkAt A n x l C dx vt vs vps → Rp K B b.t vt → Rp K B b.s vs → Rps K B b.ps vps → SlOk K A B H (.bk n b) (some (.ref x))

structure SR (K : PySem.W.Frag) (A : Anc) (B H : Hp) (σ : L2.St) (env : Env) : Prop where
  len : σ.length = env.length
  same : Same B H
  slot : ∀ (i : Nat) (sl : Sl) (ov : Option V), env[i]? = some sl → σ[i]? = some ov → SlOk K A B H sl ov
  inj : ∀ (i j : Nat) (p : Addr) (sl sl' : Sl), i ≠ j → env[i]? = some sl → env[j]? = some sl' → sl.mut = true → sl'.mut = true → σ[i]? = some (some (.ref p)) → σ[j]? = some (some (.ref p)) → False
  anc : ∀ a o, A.H0 a = some o → ¬ A.isIo a → H a = some o ∧ (B a = A.B0 a ∨ ∃ ts, o = .tup ts)
  iob : ∀ a, A.isIo a → B a = none ∧ ∃ o, H a = some o ∧ ∀ ts, o ≠ .tup ts
  ioh : ∀ a, A.isIo a → ∃ o, A.H0 a = some o
  tab : ∀ p ∈ TabL.T, LamX.TabS H p.1 p.2 ∧ B p.1 = none ∧ A.H0 p.1 = none

section
variable {K : PySem.W.Frag} {A : Anc} {B H : Hp} {σ : L2.St} {env : Env}
theorem SR.tN (S : SR K A B H σ env) {p : Addr} (h : ∀ ps, H p ≠ some (.tbl ps)) : p ∉ tbA := fun z => by
  obtain ⟨q, hq, rfl⟩ := List.mem_map.mp z
  obtain ⟨⟨ps, e, _⟩, _⟩ := S.tab q hq
  exact h ps e
theorem SR.tB (S : SR K A B H σ env) {p : Addr} {o : HO} (h : B p = some o) : p ∉ tbA := fun z => by
  obtain ⟨q, hq, rfl⟩ := List.mem_map.mp z
  rw [(S.tab q hq).2.1] at h
  cases h
theorem SR.tH (S : SR K A B H σ env) {p : Addr} {o : HO} (h : A.H0 p = some o) : p ∉ tbA := fun z => by
  obtain ⟨q, hq, rfl⟩ := List.mem_map.mp z
  rw [(S.tab q hq).2.2] at h
  cases h
theorem SR.tC (S : SR K A B H σ env) {p : Addr} {B' : Hp} {d : D} (h : Cont K B' d (H p)) : p ∉ tbA := S.tN fun ps e => by
  rw [e] at h
  exact h.ntab.1 ps rfl
theorem SR.tE (S : SR K A B H σ env) {p : Addr} (h : H p = none) : p ∉ tbA := S.tN fun ps e => by
  rw [h] at e
  cases e
theorem tne {p : Addr} (n : p ∉ tbA) {q : Addr × Str} (h : q ∈ TabL.T) : q.1 ≠ p := fun z => n (List.mem_map.mpr ⟨q, h, z⟩)
/-- an address that nothing is tracked at is new to the def -/
theorem SR.new (S : SR K A B H σ env) {p : Addr} (h : H p = none) : B p = none ∧ A.H0 p = none ∧ ¬ A.isIo p := by
  have h1 : ¬ A.isIo p := fun z => by
    obtain ⟨_, o, e, _⟩ := S.iob p z
    rw [h] at e
    cases e
  refine ⟨S.same.free h, ?_, h1⟩
  cases e : A.H0 p with
  | none => rfl
  | some o =>
    have := (S.anc p o e h1).1
    rw [h] at this
    cases this
theorem SlOk.grow {sl : Sl} {ov : Option V} {B' H' : Hp} (s : SlOk K A B H sl ov) (hB : Same B B') (hH : ∀ p d, ov = some (.ref p) → sl.mut = true → Cont K B d (H p) → H' p = H p) (hN : ∀ p, ov = some (.ref p) → sl.mut = true → B p = none → B' p = none) : SlOk K A B' H' sl ov := by
  cases s with
  | em => exact .em
  | im r => exact .im (r.mono hB)
  | ow b h c =>
    refine .ow (hN _ rfl rfl b) h ?_
    rw [hH _ _ rfl rfl c]
    exact c.mono hB
  | io h c =>
    refine .io h ?_
    rw [hH _ _ rfl rfl c]
    exact c.mono hB
  | bk h r1 r2 r3 => exact .bk h (r1.mono hB) (r2.mono hB) (r3.mono hB)
theorem SlOk.held {sl : Sl} {ov : Option V} (s : SlOk K A B H sl ov) (m : sl.mut = true) : ∃ p d o, ov = some (.ref p) ∧ (sl = .ow d ∨ ∃ j, sl = .io j d) ∧ H p = some o ∧ Cont K B d (some o) := by
  cases s with
  | em => cases m
  | im _ => cases m
  | ow b h c =>
    obtain ⟨o, e⟩ := c.some
    exact ⟨_, _, o, rfl, .inl rfl, e, by rw [← e]; exact c⟩
  | io h c =>
    obtain ⟨o, e⟩ := c.some
    exact ⟨_, _, o, rfl, .inr ⟨_, rfl⟩, e, by rw [← e]; exact c⟩
  | bk _ _ _ _ => cases m
/-- a new object, not frozen -/
theorem SR.laid (S : SR K A B H σ env) {p : Addr} {o : HO} (h : H p = none) : SR K A B (upd H p o) σ env := by
  obtain ⟨b, h0, hio⟩ := S.new h
  refine ⟨S.len, fun a u e => ?_, fun i sl ov e1 e2 => ?_, S.inj, fun a u e n => ?_, fun a n => ?_, S.ioh, fun q hq => ⟨tab_upd (S.tab q hq).1 (fun ps z => by rw [h] at z; cases z) (fun c q z => by rw [h] at z; cases z), (S.tab q hq).2⟩⟩
  · have := S.same a u e
    rw [upd_ne (ne_of_none this h)]
    exact this
  · have s := S.slot i sl ov e1 e2
    refine s.grow (Same.refl _) (fun q d e m c => ?_) (fun _ _ _ z => z)
    obtain ⟨u, hu⟩ := c.some
    exact upd_ne (ne_of_none hu h)
  · obtain ⟨e1, e2⟩ := S.anc a u e n
    exact ⟨by rw [upd_ne (ne_of_none e1 h)]; exact e1, e2⟩
  · obtain ⟨b', u, e, nt⟩ := S.iob a n
    exact ⟨b', u, by rw [upd_ne (ne_of_none e h)]; exact e, nt⟩
/-- an object of this def's own that no slot holds is frozen -/
theorem SR.freeze (S : SR K A B H σ env) {p : Addr} {o : HO} (h : H p = some o) (b : B p = none) (h0 : A.H0 p = none) (hs : ∀ (i : Nat) (sl : Sl), env[i]? = some sl → sl.mut = true → σ[i]? ≠ some (some (V.ref p))) (nt : p ∉ tbA) : SR K A (upd B p o) H σ env := by
  have hB : Same B (upd B p o) := fun a u e => by
    rw [upd_ne (ne_of_none e b)]
    exact e
  have nio : ¬ A.isIo p := fun z => by
    obtain ⟨u, e⟩ := S.ioh p z
    rw [h0] at e
    cases e
  refine ⟨S.len, fun a u e => ?_, fun i sl ov e1 e2 => ?_, S.inj, fun a u e n => ?_, fun a n => ?_, S.ioh, fun q hq => ⟨(S.tab q hq).1, by rw [upd_ne (tne nt hq)]; exact (S.tab q hq).2.1, (S.tab q hq).2.2⟩⟩
  · by_cases ha : a = p
    · subst ha
      rw [upd_same] at e
      cases e
      exact h
    · rw [upd_ne ha] at e
      exact S.same a u e
  · have s := S.slot i sl ov e1 e2
    refine s.grow hB (fun _ _ _ _ _ => rfl) (fun q e m z => ?_)
    have : q ≠ p := fun z => hs i sl e1 m (by rw [e2, e, z])
    rw [upd_ne this]
    exact z
  · obtain ⟨e1, e2⟩ := S.anc a u e n
    have : a ≠ p := fun z => by
      rw [z, h0] at e
      cases e
    exact ⟨e1, by rw [upd_ne this]; exact e2⟩
  · obtain ⟨b', u⟩ := S.iob a n
    have : a ≠ p := fun z => nio (z ▸ n)
    exact ⟨by rw [upd_ne this]; exact b', u⟩
/-- a tuple is frozen, whose ever it is -/
theorem SR.freezeT (S : SR K A B H σ env) {p : Addr} {xs : List V} (h : H p = some (.tup xs)) : ∃ B', Same B B' ∧ SR K A B' H σ env ∧ B' p = some (.tup xs) := by
  cases b : B p with
  | some u =>
    have := S.same p u b
    rw [h] at this
    cases this
    exact ⟨B, Same.refl _, S, b⟩
  | none =>
    have hB : Same B (upd B p (.tup xs)) := fun a u e => by
      rw [upd_ne (ne_of_none e b)]
      exact e
    refine ⟨upd B p (.tup xs), hB, ⟨S.len, fun a u e => ?_, fun i sl ov e1 e2 => ?_, S.inj, fun a u e n => ?_, fun a n => ?_, S.ioh, fun q hq => ⟨(S.tab q hq).1, by rw [upd_ne (tne (S.tN fun ps z => by rw [h] at z; cases z) hq)]; exact (S.tab q hq).2.1, (S.tab q hq).2.2⟩⟩, upd_same⟩
    · by_cases ha : a = p
      · subst ha
        rw [upd_same] at e
        cases e
        exact h
      · rw [upd_ne ha] at e
        exact S.same a u e
    · have s := S.slot i sl ov e1 e2
      refine s.grow hB (fun _ _ _ _ _ => rfl) (fun q e m z => ?_)
      obtain ⟨q', d, u, f1, _, f2, f3⟩ := s.held m
      have : q ≠ p := fun z => by
        subst z
        rw [e] at f1
        cases f1
        rw [h] at f2
        cases f2
        exact f3.nt _ rfl
      rw [upd_ne this]
      exact z
    · obtain ⟨e1, e2⟩ := S.anc a u e n
      by_cases ha : a = p
      · subst ha
        rw [h] at e1
        cases e1
        exact ⟨h, .inr ⟨_, rfl⟩⟩
      · exact ⟨e1, by rw [upd_ne ha]; exact e2⟩
    · obtain ⟨b', u, e, nt⟩ := S.iob a n
      have : a ≠ p := fun z => by
        subst z
        rw [h] at e
        cases e
        exact nt _ rfl
      exact ⟨by rw [upd_ne this]; exact b', u, e, nt⟩
/-- a new object is frozen at once -/
theorem SR.laidF (S : SR K A B H σ env) {p : Addr} {o : HO} (h : H p = none) : SR K A (upd B p o) (upd H p o) σ env ∧ Same B (upd B p o) := by
  obtain ⟨b, h0, _⟩ := S.new h
  refine ⟨(S.laid h).freeze upd_same b h0 (fun i sl e m z => ?_) ?_, fun a u e => ?_⟩
  · obtain ⟨q, d, u, e1, _, e2, _⟩ := (S.slot i sl _ e z).held m
    cases e1
    rw [h] at e2
    cases e2
  · exact S.tE h
  · rw [upd_ne (ne_of_none e b)]
    exact e
/-- a held slot more, behind all -/
theorem SR.push (S : SR K A B H σ env) {p : Addr} {o : HO} {d : D} (h : H p = none) (c : Cont K B d (some o)) : SR K A B (upd H p o) (σ ++ [some (.ref p)]) (env ++ [.ow d]) := by
  obtain ⟨b, h0, hio⟩ := S.new h
  have S1 := S.laid (o := o) h
  have old : ∀ (i : Nat) (sl : Sl), env[i]? = some sl → sl.mut = true → σ[i]? ≠ some (some (V.ref p)) := fun i sl e m z => by
    obtain ⟨q, d, u, e1, _, e2, _⟩ := (S.slot i sl _ e z).held m
    cases e1
    rw [h] at e2
    cases e2
  have ge : ∀ i sl, (env ++ [Sl.ow d])[i]? = some sl → (env[i]? = some sl ∧ i < env.length) ∨ (i = env.length ∧ sl = .ow d) := fun i sl e => by
    by_cases hi : i < env.length
    · rw [List.getElem?_append_left hi] at e
      exact .inl ⟨e, hi⟩
    · rw [List.getElem?_append_right (by omega)] at e
      obtain ⟨h1, h2⟩ := List.getElem?_eq_some_iff.mp e
      have h3 : i - env.length = 0 := by simpa using h1
      refine .inr ⟨by omega, ?_⟩
      simp [h3] at h2
      exact h2.symm
  have gs : ∀ i, i < env.length → (σ ++ [some (V.ref p)])[i]? = σ[i]? := fun i hi => List.getElem?_append_left (by rw [S.len]; exact hi)
  have gl : (σ ++ [some (V.ref p)])[env.length]? = some (some (.ref p)) := by
    rw [← S.len]
    simp
  refine ⟨by simp [S.len], S1.same, fun i sl ov e1 e2 => ?_, fun i j q sl sl' ne e1 e2 m1 m2 e3 e4 => ?_, S1.anc, S1.iob, S1.ioh, S1.tab⟩
  · rcases ge i sl e1 with ⟨e, hi⟩ | ⟨rfl, rfl⟩
    · rw [gs i hi] at e2
      exact S1.slot i sl ov e e2
    · rw [gl] at e2
      cases e2
      exact .ow b h0 (by rw [upd_same]; exact c)
  · rcases ge i sl e1 with ⟨e, hi⟩ | ⟨rfl, rfl⟩
    · rw [gs i hi] at e3
      rcases ge j sl' e2 with ⟨e', hj⟩ | ⟨rfl, rfl⟩
      · rw [gs j hj] at e4
        exact S.inj i j q sl sl' ne e e' m1 m2 e3 e4
      · rw [gl] at e4
        cases e4
        exact old i sl e m1 e3
    · rw [gl] at e3
      cases e3
      rcases ge j sl' e2 with ⟨e', hj⟩ | ⟨rfl, rfl⟩
      · rw [gs j hj] at e4
        exact old j sl' e' m2 e4
      · exact ne rfl
/-- fewer slots -/
theorem SR.front {σ2 : L2.St} {env2 : Env} (S : SR K A B H (σ ++ σ2) (env ++ env2)) (hl : σ.length = env.length) : SR K A B H σ env := by
  have ge : ∀ i sl, env[i]? = some sl → (env ++ env2)[i]? = some sl := fun i sl e => by
    rw [List.getElem?_append_left (List.getElem?_eq_some_iff.mp e).1]
    exact e
  have gs : ∀ i ov, σ[i]? = some ov → (σ ++ σ2)[i]? = some ov := fun i ov e => by
    rw [List.getElem?_append_left (List.getElem?_eq_some_iff.mp e).1]
    exact e
  exact ⟨hl, S.same, fun i sl ov e1 e2 => S.slot i sl ov (ge _ _ e1) (gs _ _ e2), fun i j p sl sl' ne e1 e2 m1 m2 e3 e4 => S.inj i j p sl sl' ne (ge _ _ e1) (ge _ _ e2) m1 m2 (gs _ _ e3) (gs _ _ e4), S.anc, S.iob, S.ioh, S.tab⟩
/-- a slot is set to frozen data, or forgotten -/
theorem SR.setIm (S : SR K A B H σ env) {i : Nat} {v : V} {d : D} (r : Rp K B d v) : SR K A B H (σ.set i (some v)) (env.set i (.im d)) := by
  refine ⟨by simp [S.len], S.same, fun j sl ov e1 e2 => ?_, fun j k p sl sl' ne e1 e2 m1 m2 e3 e4 => ?_, S.anc, S.iob, S.ioh, S.tab⟩
  · by_cases hj : i = j
    · subst hj
      have h1 : i < (env.set i (.im d)).length := (List.getElem?_eq_some_iff.mp e1).1
      have h2 : i < env.length := by simpa using h1
      rw [List.getElem?_set_self h2] at e1
      rw [List.getElem?_set_self (by rw [S.len]; exact h2)] at e2
      cases e1
      cases e2
      exact .im r
    · rw [List.getElem?_set_ne hj] at e1 e2
      exact S.slot j sl ov e1 e2
  · have key : ∀ j sl, (env.set i (Sl.im d))[j]? = some sl → sl.mut = true → i ≠ j ∧ env[j]? = some sl := fun j sl e m => by
      by_cases hj : i = j
      · subst hj
        have h1 : i < (env.set i (.im d)).length := (List.getElem?_eq_some_iff.mp e).1
        rw [List.getElem?_set_self (by simpa using h1)] at e
        cases e
        cases m
      · rw [List.getElem?_set_ne hj] at e
        exact ⟨hj, e⟩
    obtain ⟨n1, f1⟩ := key j sl e1 m1
    obtain ⟨n2, f2⟩ := key k sl' e2 m2
    rw [List.getElem?_set_ne n1] at e3
    rw [List.getElem?_set_ne n2] at e4
    exact S.inj j k p sl sl' ne f1 f2 m1 m2 e3 e4
theorem SR.setEm (S : SR K A B H σ env) {i : Nat} {ov : Option V} : SR K A B H (σ.set i ov) (env.set i .em) := by
  refine ⟨by simp [S.len], S.same, fun j sl ov' e1 e2 => ?_, fun j k p sl sl' ne e1 e2 m1 m2 e3 e4 => ?_, S.anc, S.iob, S.ioh, S.tab⟩
  · by_cases hj : i = j
    · subst hj
      have h1 : i < (env.set i .em).length := (List.getElem?_eq_some_iff.mp e1).1
      rw [List.getElem?_set_self (by simpa using h1)] at e1
      cases e1
      exact .em
    · rw [List.getElem?_set_ne hj] at e1 e2
      exact S.slot j sl ov' e1 e2
  · have key : ∀ j sl, (env.set i Sl.em)[j]? = some sl → sl.mut = true → i ≠ j ∧ env[j]? = some sl := fun j sl e m => by
      by_cases hj : i = j
      · subst hj
        have h1 : i < (env.set i .em).length := (List.getElem?_eq_some_iff.mp e).1
        rw [List.getElem?_set_self (by simpa using h1)] at e
        cases e
        cases m
      · rw [List.getElem?_set_ne hj] at e
        exact ⟨hj, e⟩
    obtain ⟨n1, f1⟩ := key j sl e1 m1
    obtain ⟨n2, f2⟩ := key k sl' e2 m2
    rw [List.getElem?_set_ne n1] at e3
    rw [List.getElem?_set_ne n2] at e4
    exact S.inj j k p sl sl' ne f1 f2 m1 m2 e3 e4
/-- the slots at two places of the list change places: only what stands matters -/
theorem SR.sub {σ' : L2.St} {env' : Env} (S : SR K A B H σ env) (hl : σ'.length = env'.length) (f : Nat → Nat) (hf : ∀ i j sl sl', env'[i]? = some sl → env'[j]? = some sl' → sl.mut = true → sl'.mut = true → f i = f j → i = j)
    (he : ∀ i sl, env'[i]? = some sl → sl ≠ .em → env[f i]? = some sl ∧ σ'[i]? = σ[f i]?) : SR K A B H σ' env' := by
  refine ⟨hl, S.same, fun i sl ov e1 e2 => ?_, fun i j p sl sl' ne e1 e2 m1 m2 e3 e4 => ?_, S.anc, S.iob, S.ioh, S.tab⟩
  · cases sl with
    | em => exact .em
    | im d =>
      obtain ⟨h1, h2⟩ := he i _ e1 (by simp)
      exact S.slot (f i) _ ov h1 (by rw [← h2]; exact e2)
    | ow d =>
      obtain ⟨h1, h2⟩ := he i _ e1 (by simp)
      exact S.slot (f i) _ ov h1 (by rw [← h2]; exact e2)
    | io d =>
      obtain ⟨h1, h2⟩ := he i _ e1 (by simp)
      exact S.slot (f i) _ ov h1 (by rw [← h2]; exact e2)
    | bk n b =>
      obtain ⟨h1, h2⟩ := he i _ e1 (by simp)
      exact S.slot (f i) _ ov h1 (by rw [← h2]; exact e2)
  · have n1 : sl ≠ .em := fun z => by subst z; cases m1
    have n2 : sl' ≠ .em := fun z => by subst z; cases m2
    obtain ⟨h1, h2⟩ := he i _ e1 n1
    obtain ⟨h3, h4⟩ := he j _ e2 n2
    refine S.inj (f i) (f j) p sl sl' (fun z => ne (hf i j sl sl' e1 e2 m1 m2 z)) h1 h3 m1 m2 (by rw [← h2]; exact e3) (by rw [← h4]; exact e4)
/-- the container that a slot holds is written -/
theorem SR.write (S : SR K A B H σ env) {i : Nat} {p : Addr} {sl sl' : Sl} {o : HO} {d d' : D} (he : env[i]? = some sl) (hs : (sl = .ow d ∧ sl' = .ow d') ∨ (∃ j, sl = .io j d ∧ sl' = .io j d')) (hv : σ[i]? = some (some (.ref p))) (c : Cont K B d' (some o)) :
    SR K A B (upd H p o) σ (env.set i sl') := by
  have hi : i < env.length := (List.getElem?_eq_some_iff.mp he).1
  have m : sl.mut = true := by rcases hs with ⟨rfl, rfl⟩ | ⟨j0, rfl, rfl⟩ <;> rfl
  have bp : B p = none := by
    have s := S.slot i sl _ he hv
    rcases hs with ⟨rfl, rfl⟩ | ⟨j0, rfl, rfl⟩
    · cases s with
      | ow b _ _ => exact b
    · cases s with
      | io h _ => exact (S.iob p ⟨_, h⟩).1
  have old : ∀ (j : Nat) (sl2 : Sl), j ≠ i → env[j]? = some sl2 → sl2.mut = true → σ[j]? ≠ some (some (V.ref p)) := fun j sl2 ne e m2 z => S.inj j i p sl2 sl ne e he m2 m z hv
  have gi : ∀ j sl2, (env.set i sl')[j]? = some sl2 → (j = i ∧ sl2 = sl') ∨ (j ≠ i ∧ env[j]? = some sl2) := fun j sl2 e => by
    by_cases hj : i = j
    · subst hj
      rw [List.getElem?_set_self hi] at e
      cases e
      exact .inl ⟨rfl, rfl⟩
    · rw [List.getElem?_set_ne hj] at e
      exact .inr ⟨fun z => hj z.symm, e⟩
  have cp : ∃ d0, Cont K B d0 (H p) := by
    have s := S.slot i sl _ he hv
    rcases hs with ⟨rfl, rfl⟩ | ⟨j0, rfl, rfl⟩
    · cases s with
      | ow _ _ c0 => exact ⟨_, c0⟩
    · cases s with
      | io _ c0 => exact ⟨_, c0⟩
  obtain ⟨d0, cp⟩ := cp
  refine ⟨by simp [S.len], fun a u e => ?_, fun j sl2 ov e1 e2 => ?_, fun j k q s1 s2 ne e1 e2 m1 m2 e3 e4 => ?_, fun a u e n => ?_, fun a n => ?_, S.ioh, fun q hq => ⟨tab_upd (S.tab q hq).1 (fun ps z => by rw [z] at cp; exact cp.ntab.1 _ rfl) (fun c q z => by rw [z] at cp; exact cp.ntab.2 _ _ rfl), (S.tab q hq).2⟩⟩
  · rw [upd_ne (ne_of_none e bp)]
    exact S.same a u e
  · rcases gi j sl2 e1 with ⟨rfl, rfl⟩ | ⟨ne, e⟩
    · rw [hv] at e2
      cases e2
      have s := S.slot j sl _ he hv
      rcases hs with ⟨rfl, rfl⟩ | ⟨j0, rfl, rfl⟩
      · cases s with
        | ow b h _ => exact .ow b h (by rw [upd_same]; exact c)
      · cases s with
        | io h _ => exact .io h (by rw [upd_same]; exact c)
    · refine (S.slot j sl2 ov e e2).grow (Same.refl _) (fun q d eo m2 _ => ?_) (fun _ _ _ z => z)
      exact upd_ne fun z => old j sl2 ne e m2 (by rw [e2, eo, z])
  · have mm : sl'.mut = true := by rcases hs with ⟨rfl, rfl⟩ | ⟨j0, rfl, rfl⟩ <;> rfl
    rcases gi j s1 e1 with ⟨rfl, rfl⟩ | ⟨n1, f1⟩
    · rcases gi k s2 e2 with ⟨rfl, rfl⟩ | ⟨n2, f2⟩
      · exact ne rfl
      · exact S.inj j k q sl s2 ne he f2 m m2 e3 e4
    · rcases gi k s2 e2 with ⟨rfl, rfl⟩ | ⟨n2, f2⟩
      · exact S.inj j k q s1 sl ne f1 he m1 m e3 e4
      · exact S.inj j k q s1 s2 ne f1 f2 m1 m2 e3 e4
  · have ne : a ≠ p := fun z => by
      subst z
      have s := S.slot i sl _ he hv
      rcases hs with ⟨rfl, rfl⟩ | ⟨j0, rfl, rfl⟩
      · cases s with
        | ow _ h _ =>
          rw [h] at e
          cases e
      · cases s with
        | io h _ => exact n ⟨_, h⟩
    obtain ⟨e1, e2⟩ := S.anc a u e n
    exact ⟨by rw [upd_ne ne]; exact e1, e2⟩
  · obtain ⟨b', u, e, nt⟩ := S.iob a n
    by_cases ha : a = p
    · subst ha
      exact ⟨b', o, upd_same, c.nt⟩
    · exact ⟨b', u, by rw [upd_ne ha]; exact e, nt⟩
/-- a slot's own container is frozen where it stands -/
theorem SR.freezeAt (S : SR K A B H σ env) {i : Nat} {p : Addr} {d : D} (he : env[i]? = some (.ow d)) (hv : σ[i]? = some (some (.ref p))) :
    ∃ o, H p = some o ∧ SR K A (upd B p o) H σ (env.set i (.im d)) ∧ Same B (upd B p o) ∧ Rp K (upd B p o) d (.ref p) := by
  have hi : i < env.length := (List.getElem?_eq_some_iff.mp he).1
  cases S.slot i _ _ he hv with
  | ow b h0 c =>
    obtain ⟨o, ho⟩ := c.some
    have hB : Same B (upd B p o) := fun a u e => by
      rw [upd_ne (ne_of_none e b)]
      exact e
    have S1 : SR K A B H σ (env.set i .em) := by
      have := S.setEm (i := i) (ov := some (.ref p))
      have e : σ.set i (some (V.ref p)) = σ := by
        apply List.ext_getElem?
        intro j
        by_cases hj : i = j
        · subst hj
          rw [List.getElem?_set_self (by rw [S.len]; exact hi), hv]
        · rw [List.getElem?_set_ne hj]
      rw [e] at this
      exact this
    have S2 : SR K A (upd B p o) H σ (env.set i .em) := by
      refine S1.freeze ho b h0 (fun j sl e m z => ?_) ?_
      by_cases hj : i = j
      · subst hj
        rw [List.getElem?_set_self hi] at e
        cases e
        cases m
      · rw [List.getElem?_set_ne hj] at e
        exact S.inj j i p sl _ (fun z => hj z.symm) e he m rfl z hv
      · exact S.tC c
    have r : Rp K (upd B p o) d (.ref p) := by
      rw [ho] at c
      exact c.frozen hB upd_same
    refine ⟨o, ho, ?_, hB, r⟩
    have S3 := S2.setIm (i := i) r
    have e : σ.set i (some (V.ref p)) = σ := by
      apply List.ext_getElem?
      intro j
      by_cases hj : i = j
      · subst hj
        rw [List.getElem?_set_self (by rw [S.len]; exact hi), hv]
      · rw [List.getElem?_set_ne hj]
    rw [e, List.set_set] at S3
    exact S3
end
end PD
namespace PD
variable [PD.TabL]
open PySem PySem.Spec PyProof.Rows L2

/-- what an expression gives: frozen data; a new list or dict that nobody else holds; the container that a slot holds -/
inductive Vl where
  | im (d : D) | fr (d : D) | bo (i : Nat)
abbrev M (α : Type) := Env → Option (α × Env)
def rt {α : Type} (a : α) : M α := fun e => some (a, e)
def bd {α β : Type} (m : M α) (f : α → M β) : M β := fun e => match m e with
  | some (a, e') => f a e'
  | none => none
def Vl.hold : Vl → Vl
  | .fr d => .im d
  | v => v
/-- a value's content now -/
def cnt (e : Env) : Vl → Option D
  | .im d => some d
  | .fr d => some d
  | .bo i => match e[i]? with
    | some (.im d) => some d
    | some (.ow d) => some d
    | some (.io _ d) => some d
    | _ => none
def cnts (e : Env) : List Vl → Option (List D)
  | [] => some []
  | v :: r => match cnt e v, cnts e r with
    | some d, some ds => some (d :: ds)
    | _, _ => none
/-- .. frozen for good -/
def frz : Vl → M D
  | .im d => rt d
  | .fr d => rt d
  | .bo i => fun e => match e[i]? with
    | some (.im d) => some (d, e)
    | some (.ow d) => some (d, e.set i (.im d))
    | _ => none
def frzs : List Vl → M (List D)
  | [] => rt []
  | v :: r => bd (frz v) fun d => bd (frzs r) fun ds => rt (d :: ds)

section
variable (K : PySem.W.Frag) (A : Anc)
/-- a value stands for what is known of it -/
def VR (B H : Hp) (σ τ : L2.St) (env pe : Env) : Vl → V → Prop
  | .im d, v => SR K A B H (σ ++ τ) (env ++ pe) ∧ Rp K B d v
  | .fr d, v => SR K A B H (σ ++ τ ++ [some v]) (env ++ pe ++ [.ow d])
  | .bo i, v => SR K A B H (σ ++ τ) (env ++ pe) ∧ σ[i]? = some (some v)
def Hv (B : Hp) (σ : L2.St) : Vl → V → Prop
  | .im d, v => Rp K B d v
  | .fr _, _ => False
  | .bo i, v => σ[i]? = some (some v)
def SEX (t : TE) (m : M Vl) : Prop := ∀ (σ τ : L2.St) (B H : Hp) (env pe env' : Env) (r : Vl) (Q : VK), SR K A B H (σ ++ τ) (env ++ pe) → σ.length = env.length → m env = some (r, env') →
  (∀ B' H' v, Same B B' → σ.length = env'.length → VR K A B' H' σ τ env' pe r v → Q v H') → t σ H Q
def SAX (t : TA) (m : M (List Vl)) : Prop := ∀ (σ τ : L2.St) (B H : Hp) (env pe env' : Env) (rs : List Vl) (Q : List V → Hp → Prop), SR K A B H (σ ++ τ) (env ++ pe) → σ.length = env.length → m env = some (rs, env') →
  (∀ B' H' vs, Same B B' → σ.length = env'.length → SR K A B' H' (σ ++ τ) (env' ++ pe) → Paired (Hv K B' σ) rs vs → Q vs H') → t σ H Q
def STX (t : TT) (m : M Bool) : Prop := ∀ (σ τ : L2.St) (B H : Hp) (env pe env' : Env) (b : Bool) (Q : Bool → Hp → Prop), SR K A B H (σ ++ τ) (env ++ pe) → σ.length = env.length → m env = some (b, env') →
  (∀ B' H', Same B B' → σ.length = env'.length → SR K A B' H' (σ ++ τ) (env' ++ pe) → Q b H') → t σ H Q
end

section
variable {K : PySem.W.Frag} {A : Anc} {B H : Hp} {σ τ : L2.St} {env pe : Env}
theorem list_set_self {α : Type} {l : List α} {i : Nat} {a : α} (h : l[i]? = some a) : l.set i a = l := by
  have hi := (List.getElem?_eq_some_iff.mp h).1
  apply List.ext_getElem?
  intro j
  by_cases hj : i = j
  · subst hj
    rw [List.getElem?_set_self hi, h]
  · rw [List.getElem?_set_ne hj]
/-- a pending value is frozen (unless a slot holds it) -/
theorem VR.held {r : Vl} {v : V} (h : VR K A B H σ τ env pe r v) : ∃ B', Same B B' ∧ SR K A B' H (σ ++ τ) (env ++ pe) ∧ Hv K B' σ r.hold v := by
  cases r with
  | im d => exact ⟨B, Same.refl _, h.1, h.2⟩
  | bo i => exact ⟨B, Same.refl _, h.1, h.2⟩
  | fr d =>
    have S : SR K A B H (σ ++ τ ++ [some v]) (env ++ pe ++ [.ow d]) := h
    have hl : (σ ++ τ).length = (env ++ pe).length := by
      have := S.len
      simp only [List.length_append, List.length_cons, List.length_nil] at this ⊢
      omega
    have e1 : (env ++ pe ++ [Sl.ow d])[(env ++ pe).length]? = some (.ow d) := by simp
    have e2 : (σ ++ τ ++ [some v])[(env ++ pe).length]? = some (some v) := by
      rw [← hl]
      simp
    cases S.slot _ _ _ e1 e2 with
    | ow b h0 c =>
      obtain ⟨o, ho, S1, hB, rr⟩ := S.freezeAt e1 e2
      refine ⟨_, hB, ?_, rr⟩
      have e3 : (env ++ pe ++ [Sl.ow d]).set (env ++ pe).length (.im d) = env ++ pe ++ [.im d] := by simp
      rw [e3] at S1
      exact S1.front hl
theorem SR.at (S : SR K A B H (σ ++ τ) (env ++ pe)) (hl : σ.length = env.length) {i : Nat} {sl : Sl} {ov : Option V} (e1 : env[i]? = some sl) (e2 : σ[i]? = some ov) : SlOk K A B H sl ov := by
  refine S.slot i sl ov ?_ ?_
  · rw [List.getElem?_append_left (List.getElem?_eq_some_iff.mp e1).1]
    exact e1
  · rw [List.getElem?_append_left (List.getElem?_eq_some_iff.mp e2).1]
    exact e2
/-- v stands for d: frozen, or the content of a container that stands in the heap -/
inductive Rr (K : PySem.W.Frag) (B H : Hp) : D → V → Prop
  | fz {d : D} {v : V} : Rp K B d v → Rr K B H d v
  | ct {d : D} {p : Addr} : Cont K B d (H p) → Rr K B H d (.ref p)
theorem Rr.lst {ds : List D} {v : V} (s : Same B H) (h : Rr K B H (.lst ds) v) : ∃ a xs, v = .ref a ∧ H a = some (.lst xs) ∧ Rps K B ds xs := by
  cases h with
  | fz r =>
    cases r with
    | lst h r => exact ⟨_, _, rfl, s _ _ h, r⟩
  | ct c =>
    rename_i p
    generalize e : H p = o at c
    cases c with
    | lst r => exact ⟨_, _, rfl, e, r⟩
theorem Rr.ty {n : String} {v : V} (h : Rr K B H (.ty n) v) : v = .ty n := by
  cases h with
  | fz r => cases r; rfl
  | ct c =>
    rename_i p
    generalize e : H p = o at c
    cases c
theorem Rr.sc {ns : List Int} {v : V} (s : Same B H) (h : Rr K B H (.sc ns) v) : ∃ a, v = .ref a ∧ SqL K H a (ns.map V.int) := by
  cases h with
  | fz r =>
    cases r with
    | sc h => exact ⟨_, rfl, sameL s h⟩
  | ct c =>
    rename_i p
    generalize e : H p = o at c
    cases c
theorem Rr.tup {ds : List D} {v : V} (s : Same B H) (h : Rr K B H (.tup ds) v) : ∃ a xs, v = .ref a ∧ H a = some (.tup xs) ∧ TuT K B a xs ∧ Rps K B ds xs := by
  cases h with
  | fz r =>
    cases r with
    | tup h r => exact ⟨_, _, rfl, h.same s, h, r⟩
  | ct c =>
    rename_i p
    generalize e : H p = o at c
    cases c
theorem Rr.tp {ds : List D} {v : V} (s : Same B H) (h : Rr K B H (.tp ds) v) : ∃ a o xs, v = .ref a ∧ H a = some (.frz o (.tup xs)) ∧ o.dict = none ∧ Rps K B ds xs := by
  cases h with
  | fz r =>
    cases r with
    | tp h d r => exact ⟨_, _, _, rfl, s _ _ h, d, r⟩
  | ct c =>
    rename_i p
    generalize e : H p = o at c
    cases c
theorem Rr.int {i : Int} {v : V} (h : Rr K B H (.int i) v) : v = .int i := by
  cases h with
  | fz r => cases r; rfl
  | ct c =>
    rename_i p
    generalize e : H p = o at c
    cases c
theorem Rr.bl {b : Bool} {v : V} (h : Rr K B H (.bl b) v) : v = .bl b := by
  cases h with
  | fz r => cases r; rfl
  | ct c =>
    rename_i p
    generalize e : H p = o at c
    cases c
theorem Rr.non {v : V} (h : Rr K B H .non v) : v = .non := by
  cases h with
  | fz r => cases r; rfl
  | ct c =>
    rename_i p
    generalize e : H p = o at c
    cases c
theorem Rr.str {x : Str} {v : V} (h : Rr K B H (.str x) v) : v = .str x ∧ PyData.strOk x = true := by
  cases h with
  | fz r =>
    cases r with
    | str _ h => exact ⟨rfl, h⟩
  | ct c =>
    rename_i p
    generalize e : H p = o at c
    cases c
theorem Rr.kf {es : List (Key × D)} {v : V} (s : Same B H) (h : Rr K B H (.kf es) v) : ∃ a o kvs, v = .ref a ∧ H a = some (.frz o (.dK kvs)) ∧ es.map (·.1) = kvs.map (·.1) ∧ Rps K B (es.map (·.2)) (kvs.map (·.2)) := by
  cases h with
  | fz r =>
    cases r with
    | kf h e r => exact ⟨_, _, _, rfl, s _ _ h, e, r⟩
  | ct c =>
    rename_i p
    generalize e : H p = o at c
    cases c
theorem Rr.tf {es : List (List Key × D)} {v : V} (s : Same B H) (h : Rr K B H (.tf es) v) : ∃ a o kvs, v = .ref a ∧ H a = some (.frz o (.dT kvs)) ∧ es.map (·.1) = kvs.map (·.1) ∧ Rps K B (es.map (·.2)) (kvs.map (·.2)) := by
  cases h with
  | fz r =>
    cases r with
    | tf h e r => exact ⟨_, _, _, rfl, s _ _ h, e, r⟩
  | ct c =>
    rename_i p
    generalize e : H p = o at c
    cases c
theorem Rr.dk {es : List (Key × D)} {v : V} (s : Same B H) (h : Rr K B H (.dk es) v) : ∃ a kvs, v = .ref a ∧ H a = some (.dK kvs) ∧ es.map (·.1) = kvs.map (·.1) ∧ Rps K B (es.map (·.2)) (kvs.map (·.2)) := by
  cases h with
  | fz r =>
    cases r with
    | dk h e r => exact ⟨_, _, rfl, s _ _ h, e, r⟩
  | ct c =>
    rename_i p
    generalize e : H p = o at c
    cases c with
    | dk e1 r => exact ⟨_, _, rfl, e, e1, r⟩
theorem Rr.dt {es : List (List Key × D)} {v : V} (s : Same B H) (h : Rr K B H (.dt es) v) : ∃ a kvs, v = .ref a ∧ H a = some (.dT kvs) ∧ es.map (·.1) = kvs.map (·.1) ∧ Rps K B (es.map (·.2)) (kvs.map (·.2)) := by
  cases h with
  | fz r =>
    cases r with
    | dt h e r => exact ⟨_, _, rfl, s _ _ h, e, r⟩
  | ct c =>
    rename_i p
    generalize e : H p = o at c
    cases c with
    | dt e1 r => exact ⟨_, _, rfl, e, e1, r⟩
theorem Hv.rr {r : Vl} {v : V} {d : D} (S : SR K A B H (σ ++ τ) (env ++ pe)) (hl : σ.length = env.length) (h : Hv K B σ r v) (c : cnt env r = some d) : Rr K B H d v := by
  cases r with
  | im d' =>
    cases c
    exact .fz h
  | fr d' => exact h.elim
  | bo i =>
    have h : σ[i]? = some (some v) := h
    unfold cnt at c
    dsimp only at c
    split at c
    · rename_i d' e
      cases c
      cases S.at hl e h with
      | im r => exact .fz r
    · rename_i d' e
      cases c
      cases S.at hl e h with
      | ow b h0 cc => exact .ct cc
    · rename_i d' e
      cases c
      cases S.at hl e h with
      | io h0 cc => exact .ct cc
    · cases c
theorem Hv.rrs (S : SR K A B H (σ ++ τ) (env ++ pe)) (hl : σ.length = env.length) : ∀ {rs : List Vl} {vs : List V} {ds : List D}, Paired (Hv K B σ) rs vs → cnts env rs = some ds → Paired (Rr K B H) ds vs
  | _, _, ds, .nil, c => by
    cases c
    exact .nil
  | r :: rs, v :: vs, ds, .cons h t, c => by
    unfold cnts at c
    split at c
    · rename_i d ds' e1 e2
      cases c
      exact .cons (Hv.rr S hl h e1) (Hv.rrs S hl t e2)
    · cases c
theorem Hv.mono {B' : Hp} (s : Same B B') {r : Vl} {v : V} (h : Hv K B σ r v) : Hv K B' σ r v := by
  cases r with
  | im d => exact Rp.mono s h
  | fr d => exact h
  | bo i => exact h
end

def cN : M (List Vl) := rt []
def cA (m : M Vl) (ms : M (List Vl)) : M (List Vl) := bd m fun r => bd ms fun rs => rt (r.hold :: rs)
section
variable {K : PySem.W.Frag} {A : Anc}
theorem sa_nil : SAX K A tNil cN := fun σ τ B H env pe env' rs Q S hl e q => by
  cases e
  exact q B H [] (Same.refl _) hl S .nil
theorem sa_cons {t : TE} {ts : TA} {m : M Vl} {ms : M (List Vl)} (h : SEX K A t m) (hs : SAX K A ts ms) : SAX K A (tCons t ts) (cA m ms) := fun σ τ B H env pe env' rs Q S hl e q => by
  unfold cA bd at e
  split at e
  · rename_i r e1 he
    try dsimp only at e
    split at e
    · rename_i rs' e2 hes
      try dsimp only at e
      cases e
      refine h σ τ B H env pe e1 r _ S hl he fun B1 H1 v s1 hl1 hv => ?_
      obtain ⟨B2, s2, S2, hh⟩ := hv.held
      refine hs σ τ B2 H1 e1 pe _ rs' _ S2 hl1 hes fun B3 H3 vs s3 hl3 S3 hr => ?_
      exact q B3 H3 (v :: vs) ((s1.trans s2).trans s3) hl3 S3 (.cons (hh.mono s3) hr)
    · cases e
  · cases e
end

/-- a rule by values does f -/
def VRp (K : PySem.W.Frag) (A : Anc) (B H : Hp) (vs : L2.St) (env : Env) : Vl → V → Prop
  | .im d, v => SR K A B H vs env ∧ Rp K B d v
  | .fr d, v => SR K A B H (vs ++ [some v]) (env ++ [.ow d])
  | .bo _, _ => False
def PrS (K : PySem.W.Frag) (r : List V → Hp → VK → Prop) (f : List D → Option Vl) : Prop :=
  ∀ (A : Anc) (B H : Hp) (vs : L2.St) (env : Env) (xs : List V) (ds : List D) (res : Vl) (Q : VK), SR K A B H vs env → Paired (Rr K B H) ds xs → f ds = some res → (∀ B' H' v, Same B B' → VRp K A B' H' vs env res v → Q v H') → r xs H Q
def eP (f : List D → Option Vl) (ms : M (List Vl)) : M Vl := bd ms fun rs e => match cnts e rs with
  | some ds => match f ds with
    | some (.im d) => some (.im d, e)
    | some (.fr d) => some (.fr d, e)
    | _ => none
  | none => none
section
variable {K : PySem.W.Frag} {A : Anc}
theorem sx_prim {ta : TA} {ms : M (List Vl)} {r : List V → Hp → VK → Prop} {f : List D → Option Vl} (hp : PrS K r f) (ha : SAX K A ta ms) : SEX K A (tCB r ta) (eP f ms) := fun σ τ B H env pe env' res Q S hl e q => by
  unfold eP bd at e
  split at e
  · rename_i rs e1 he
    try dsimp only at e
    split at e
    · rename_i ds hc
      refine ha σ τ B H env pe e1 rs _ S hl he fun B1 H1 vs s1 hl1 S1 hr => ?_
      have rr := Hv.rrs S1 hl1 hr hc
      split at e
      · rename_i d hf
        cases e
        exact hp A B1 H1 (σ ++ τ) (env' ++ pe) vs ds _ Q S1 rr hf fun B2 H2 v s2 h2 => q B2 H2 v (s1.trans s2) hl1 h2
      · rename_i d hf
        cases e
        exact hp A B1 H1 (σ ++ τ) (env' ++ pe) vs ds _ Q S1 rr hf fun B2 H2 v s2 h2 => q B2 H2 v (s1.trans s2) hl1 h2
      · cases e
    · cases e
  · cases e
def on2 (r : R2) : List V → Hp → VK → Prop := fun xs H Q => match xs with
  | [x, y] => r x y H Q
  | _ => False
def on1 (r : V → Hp → VK → Prop) : List V → Hp → VK → Prop := fun xs H Q => match xs with
  | [x] => r x H Q
  | _ => False
theorem sx_op {ta tb : TE} {ma mb : M Vl} {r : R2} {f : List D → Option Vl} (hp : PrS K (on2 r) f) (ha : SEX K A ta ma) (hb : SEX K A tb mb) : SEX K A (tOp r ta tb) (eP f (cA ma (cA mb cN))) :=
  sx_prim hp (sa_cons ha (sa_cons hb sa_nil))
theorem sx_un {ta : TE} {ma : M Vl} {r : V → Hp → VK → Prop} {f : List D → Option Vl} (hp : PrS K (on1 r) f) (ha : SEX K A ta ma) : SEX K A (tUn r ta) (eP f (cA ma cN)) :=
  sx_prim hp (sa_cons ha sa_nil)

def eV (i : Nat) : M Vl := fun e => match e[i]? with
  | some (.im d) => some (.im d, e)
  | some (.ow _) => some (.bo i, e)
  | some (.io _ _) => some (.bo i, e)
  | _ => none
theorem sx_var {i : Nat} : SEX K A (tVar i) (eV i) := fun σ τ B H env pe env' r Q S hl e q => by
  unfold eV at e
  split at e
  · rename_i d he
    try dsimp only at e
    cases e
    have hi : i < σ.length := by
      rw [hl]
      exact (List.getElem?_eq_some_iff.mp he).1
    have hσ := List.getElem?_eq_getElem hi
    cases h : σ[i] with
    | none =>
      rw [h] at hσ
      cases S.at hl he hσ
    | some v =>
      rw [h] at hσ
      cases S.at hl he hσ with
      | im rr => exact ⟨v, hσ, q B H v (Same.refl _) hl ⟨S, rr⟩⟩
  · rename_i d he
    try dsimp only at e
    cases e
    have hi : i < σ.length := by
      rw [hl]
      exact (List.getElem?_eq_some_iff.mp he).1
    have hσ := List.getElem?_eq_getElem hi
    cases h : σ[i] with
    | none =>
      rw [h] at hσ
      cases S.at hl he hσ
    | some v =>
      rw [h] at hσ
      exact ⟨v, hσ, q B H v (Same.refl _) hl ⟨S, hσ⟩⟩
  · rename_i d he
    try dsimp only at e
    cases e
    have hi : i < σ.length := by
      rw [hl]
      exact (List.getElem?_eq_some_iff.mp he).1
    have hσ := List.getElem?_eq_getElem hi
    cases h : σ[i] with
    | none =>
      rw [h] at hσ
      cases S.at hl he hσ
    | some v =>
      rw [h] at hσ
      exact ⟨v, hσ, q B H v (Same.refl _) hl ⟨S, hσ⟩⟩
  · cases e
/-- a constant -/
def eC (d : D) : M Vl := rt (.im d)
theorem sx_con {v : V} {d : D} (h : ∀ B, Rp K B d v) : SEX K A (tC v) (eC d) := fun σ τ B H env pe env' r Q S hl e q => by
  cases e
  exact q B H v (Same.refl _) hl ⟨S, h B⟩
/-- a value that is a truth, as a test -/
def mB (m : M Vl) : M Bool := bd m fun r e => match r with
  | .im (.bl b) => some (b, e)
  | _ => none
theorem st_val {t : TE} {m : M Vl} (h : SEX K A t m) : STX K A (tB t) (mB m) := fun σ τ B H env pe env' b Q S hl e q => by
  unfold mB bd at e
  split at e
  · rename_i r e1 he
    try dsimp only at e
    split at e
    · rename_i b'
      cases e
      refine h σ τ B H env pe env' _ _ S hl he fun B1 H1 v s1 hl1 hv => ?_
      obtain ⟨S1, rr⟩ := hv
      cases rr
      exact ⟨b, rfl, q B1 H1 s1 hl1 S1⟩
    · cases e
  · cases e
def mNot (m : M Bool) : M Bool := bd m fun b => rt (!b)
theorem st_not {t : TT} {m : M Bool} (h : STX K A t m) : STX K A (tNot t) (mNot m) := fun σ τ B H env pe env' b Q S hl e q => by
  unfold mNot bd at e
  split at e
  · rename_i b' e1 he
    try dsimp only at e
    cases e
    exact h σ τ B H env pe env' _ _ S hl he q
  · cases e
def mAnd (m n : M Bool) : M Bool := bd m fun b => if b = true then n else rt false
def mOr (m n : M Bool) : M Bool := bd m fun b => if b = true then rt true else n
theorem st_and {t u : TT} {m n : M Bool} (h : STX K A t m) (h2 : STX K A u n) : STX K A (tAnd t u) (mAnd m n) := fun σ τ B H env pe env' b Q S hl e q => by
  unfold mAnd bd at e
  split at e
  · rename_i b' e1 he
    try dsimp only at e
    refine h σ τ B H env pe e1 b' _ S hl he fun B1 H1 s1 hl1 S1 => ?_
    cases b' with
    | true =>
      rw [if_pos rfl] at e ⊢
      exact h2 σ τ B1 H1 e1 pe env' b Q S1 hl1 e fun B2 H2 s2 => q B2 H2 (s1.trans s2)
    | false =>
      rw [if_neg Bool.false_ne_true] at e ⊢
      cases e
      exact q B1 H1 s1 hl1 S1
  · cases e
theorem st_or {t u : TT} {m n : M Bool} (h : STX K A t m) (h2 : STX K A u n) : STX K A (tOr t u) (mOr m n) := fun σ τ B H env pe env' b Q S hl e q => by
  unfold mOr bd at e
  split at e
  · rename_i b' e1 he
    try dsimp only at e
    refine h σ τ B H env pe e1 b' _ S hl he fun B1 H1 s1 hl1 S1 => ?_
    cases b' with
    | false =>
      rw [if_neg Bool.false_ne_true] at e ⊢
      exact h2 σ τ B1 H1 e1 pe env' b Q S1 hl1 e fun B2 H2 s2 => q B2 H2 (s1.trans s2)
    | true =>
      rw [if_pos rfl] at e ⊢
      cases e
      exact q B1 H1 s1 hl1 S1
  · cases e
/-- not, and, or as values of truths -/
def eNot (m : M Vl) : M Vl := bd (mB m) fun b => rt (.im (.bl (!b)))
theorem sx_not {t : TE} {m : M Vl} (h : SEX K A t m) : SEX K A (tNotV t) (eNot m) := fun σ τ B H env pe env' r Q S hl e q => by
  unfold eNot bd at e
  split at e
  · rename_i b e1 he
    try dsimp only at e
    cases e
    exact st_val h σ τ B H env pe env' b (fun c H' => Q (.bl (!c)) H') S hl he fun B1 H1 s1 hl1 S1 => q B1 H1 _ s1 hl1 ⟨S1, .bl _⟩
  · cases e
def eAnd (m n : M Vl) : M Vl := bd (mB m) fun b => if b = true then n else rt (.im (.bl false))
def eOr (m n : M Vl) : M Vl := bd (mB m) fun b => if b = true then rt (.im (.bl true)) else n
theorem sx_and {t u : TE} {m n : M Vl} (h : SEX K A t m) (h2 : SEX K A u n) : SEX K A (tAndV t u) (eAnd m n) := fun σ τ B H env pe env' r Q S hl e q => by
  unfold eAnd bd at e
  split at e
  · rename_i b e1 he
    try dsimp only at e
    refine st_val h σ τ B H env pe e1 b (fun c H' => if c = true then u σ H' Q else Q (.bl false) H') S hl he fun B1 H1 s1 hl1 S1 => ?_
    cases b with
    | true =>
      rw [if_pos rfl] at e ⊢
      exact h2 σ τ B1 H1 e1 pe env' r Q S1 hl1 e fun B2 H2 v s2 => q B2 H2 v (s1.trans s2)
    | false =>
      rw [if_neg Bool.false_ne_true] at e ⊢
      cases e
      exact q B1 H1 _ s1 hl1 ⟨S1, .bl _⟩
  · cases e
def eIf (c : M Bool) (m n : M Vl) : M Vl := bd c fun b => if b = true then m else n
theorem sx_if {tc : TT} {t u : TE} {c : M Bool} {m n : M Vl} (hc : STX K A tc c) (h : SEX K A t m) (h2 : SEX K A u n) : SEX K A (tIf tc t u) (eIf c m n) := fun σ τ B H env pe env' r Q S hl e q => by
  unfold eIf bd at e
  split at e
  · rename_i b e1 he
    try dsimp only at e
    refine hc σ τ B H env pe e1 b _ S hl he fun B1 H1 s1 hl1 S1 => ?_
    cases b with
    | true =>
      rw [if_pos rfl] at e ⊢
      exact h σ τ B1 H1 e1 pe env' r Q S1 hl1 e fun B2 H2 v s2 => q B2 H2 v (s1.trans s2)
    | false =>
      rw [if_neg Bool.false_ne_true] at e ⊢
      exact h2 σ τ B1 H1 e1 pe env' r Q S1 hl1 e fun B2 H2 v s2 => q B2 H2 v (s1.trans s2)
  · cases e

/-- held values are frozen for good -/
theorem frz_ok {B H : Hp} {σ τ : L2.St} {env pe env' : Env} {r : Vl} {v : V} {d : D} (S : SR K A B H (σ ++ τ) (env ++ pe)) (hl : σ.length = env.length) (h : Hv K B σ r v) (e : frz r env = some (d, env')) :
    ∃ B', Same B B' ∧ SR K A B' H (σ ++ τ) (env' ++ pe) ∧ σ.length = env'.length ∧ Rp K B' d v := by
  cases r with
  | im d' =>
    cases e
    exact ⟨B, Same.refl _, S, hl, h⟩
  | fr d' => exact h.elim
  | bo i =>
    have h : σ[i]? = some (some v) := h
    unfold frz at e
    dsimp only at e
    split at e
    · rename_i d' he
      try dsimp only at e
      cases e
      cases S.at hl he h with
      | im rr => exact ⟨B, Same.refl _, S, hl, rr⟩
    · rename_i d' he
      try dsimp only at e
      cases e
      have hi := (List.getElem?_eq_some_iff.mp he).1
      have hj := (List.getElem?_eq_some_iff.mp h).1
      cases S.at hl he h with
      | ow b h0 c =>
        obtain ⟨o, ho, S1, hB, rr⟩ := S.freezeAt (i := i) (by rw [List.getElem?_append_left hi]; exact he) (by rw [List.getElem?_append_left hj]; exact h)
        rw [List.set_append_left _ _ hi] at S1
        exact ⟨_, hB, S1, by simpa using hl, rr⟩
    · cases e
theorem frzs_ok {σ τ : L2.St} {pe : Env} : ∀ {rs : List Vl} {vs : List V} {B H : Hp} {env env' : Env} {ds : List D}, SR K A B H (σ ++ τ) (env ++ pe) → σ.length = env.length → Paired (Hv K B σ) rs vs → frzs rs env = some (ds, env') →
    ∃ B', Same B B' ∧ SR K A B' H (σ ++ τ) (env' ++ pe) ∧ σ.length = env'.length ∧ Rps K B' ds vs
  | _, _, B, H, env, env', ds, S, hl, .nil, e => by
    cases e
    exact ⟨B, Same.refl _, S, hl, .nil⟩
  | r :: rs, v :: vs, B, H, env, env', ds, S, hl, .cons h t, e => by
    unfold frzs bd at e
    split at e
    · rename_i d e1 he
      try dsimp only at e
      split at e
      · rename_i ds' e2 hes
        try dsimp only at e
        cases e
        obtain ⟨B1, s1, S1, hl1, r1⟩ := frz_ok S hl h he
        obtain ⟨B2, s2, S2, hl2, r2⟩ := frzs_ok S1 hl1 (Paired.mapP t fun _ _ z => z.mono s1) hes
        exact ⟨B2, s1.trans s2, S2, hl2, .cons (r1.mono s2) r2⟩
      · cases e
    · cases e
def small (n : Nat) : Bool := decide (n ≤ sizeLine)
def eTup (ms : M (List Vl)) : M Vl := bd ms fun rs => bd (frzs rs) fun ds => if small ds.length = true then rt (.im (.tup ds)) else fun _ => none
def eLst (ms : M (List Vl)) : M Vl := bd ms fun rs => bd (frzs rs) fun ds => if small ds.length = true then rt (.fr (.lst ds)) else fun _ => none
theorem sx_tup {ta : TA} {ms : M (List Vl)} (ha : SAX K A ta ms) : SEX K A (tTup ta) (eTup ms) := fun σ τ B H env pe env' r Q S hl e q => by
  unfold eTup bd at e
  split at e
  · rename_i rs e1 he
    try dsimp only at e
    split at e
    · rename_i ds e2 hes
      try dsimp only at e
      split at e
      · rename_i hsm
        cases e
        refine ha σ τ B H env pe e1 rs _ S hl he fun B1 H1 vs s1 hl1 S1 hr => ?_
        obtain ⟨B2, s2, S2, hl2, r2⟩ := frzs_ok S1 hl1 hr hes
        refine ⟨by rw [← r2.length]; exact of_decide_eq_true hsm, fun p hp => ?_⟩
        obtain ⟨S3, s3⟩ := S2.laidF (o := .tup vs) hp
        exact q _ _ _ ((s1.trans s2).trans s3) hl2 ⟨S3, .tup upd_same (r2.mono s3)⟩
      · cases e
    · cases e
  · cases e
theorem sx_lst {ta : TA} {ms : M (List Vl)} (ha : SAX K A ta ms) : SEX K A (tLst ta) (eLst ms) := fun σ τ B H env pe env' r Q S hl e q => by
  unfold eLst bd at e
  split at e
  · rename_i rs e1 he
    try dsimp only at e
    split at e
    · rename_i ds e2 hes
      try dsimp only at e
      split at e
      · rename_i hsm
        cases e
        refine ha σ τ B H env pe e1 rs _ S hl he fun B1 H1 vs s1 hl1 S1 hr => ?_
        obtain ⟨B2, s2, S2, hl2, r2⟩ := frzs_ok S1 hl1 hr hes
        refine ⟨by rw [← r2.length]; exact of_decide_eq_true hsm, fun p hp => ?_⟩
        exact q B2 _ _ (s1.trans s2) hl2 (S2.push hp (.lst r2))
      · cases e
    · cases e
  · cases e
end
end PD
namespace PD
variable [PD.TabL]
open PySem PySem.Spec PyProof.Rows L2

theorem bd_inv {α β : Type} {m : M α} {f : α → M β} {e e' : Env} {b : β} (h : bd m f e = some (b, e')) : ∃ a e1, m e = some (a, e1) ∧ f a e1 = some (b, e') := by
  unfold bd at h
  split at h
  · rename_i a e1 he
    exact ⟨a, e1, he, h⟩
  · cases h

inductive Fl where
  | nx | bk | ct | rt (v : Vl)
abbrev SM := Env → Option (Fl × Env)
section
variable (K : PySem.W.Frag) (A : Anc)
def FP (B : Hp) (E : Ends) (env' : Env) : Fl → Prop
  | .nx => ∀ σ' B' H', Same B B' → SR K A B' H' σ' env' → E.nx σ' H'
  | .bk => ∀ σ' B' H', Same B B' → SR K A B' H' σ' env' → E.bk σ' H'
  | .ct => ∀ σ' B' H', Same B B' → SR K A B' H' σ' env' → E.ct σ' H'
  | .rt r => ∀ σ' B' H' v, Same B B' → σ'.length = env'.length → VR K A B' H' σ' [] env' [] r v → E.rt v H'
def SSX (t : TS) (m : SM) : Prop := ∀ (σ : L2.St) (B H : Hp) (env env' : Env) (fl : Fl) (E : Ends), SR K A B H σ env → m env = some (fl, env') → FP K A B E env' fl → t E σ H
/-- a target: ts the slots that it stores -/
def SGX (ts : List Nat) (t : TG) (m : Vl → M Unit) : Prop := ∀ (σ τ : L2.St) (B H : Hp) (env pe env' : Env) (r : Vl) (v : V) (Q : L2.St → Hp → Prop), VR K A B H σ τ env pe r v → σ.length = env.length → m r env = some ((), env') →
  (∀ σ' B' H', Same B B' → σ'.length = env'.length → (∀ vs : List Nat, (∀ i ∈ ts, i ∈ vs) → wipe σ' vs = wipe σ vs) → SR K A B' H' (σ' ++ τ) (env' ++ pe) → Q σ' H') → t v σ H Q
def SGsX (ts : List Nat) (t : TGs) (m : List D → M Unit) : Prop := ∀ (σ τ : L2.St) (B H : Hp) (env pe env' : Env) (ds : List D) (vs : List V) (Q : L2.St → Hp → Prop), SR K A B H (σ ++ τ) (env ++ pe) → Rps K B ds vs → σ.length = env.length → m ds env = some ((), env') →
  (∀ σ' B' H', Same B B' → σ'.length = env'.length → (∀ us : List Nat, (∀ i ∈ ts, i ∈ us) → wipe σ' us = wipe σ us) → SR K A B' H' (σ' ++ τ) (env' ++ pe) → Q σ' H') → t vs σ H Q
/-- what a loop walks gives these items, as long as the frozen part stands -/
structure WD (J : It) (B0 : Hp) (items : List D) : Prop where
  goes : ∀ i H B, i < items.length → Same B0 B → Same B H → J.go i H
  stops : ∀ H B, Same B0 B → Same B H → J.stop items.length H
  yields : ∀ i H B x H', i < items.length → Same B0 B → Same B H → J.yld i H x H' → ∃ d, items[i]? = some d ∧
    ((H' = H ∧ Rp K B d x) ∨ (∃ T xs ds, x = .ref T ∧ H T = none ∧ H' = upd H T (.tup xs) ∧ d = .tup ds ∧ Rps K B ds xs) ∨ ∃ T xs ds, x = .ref T ∧ H T = some (.tup xs) ∧ H' = H ∧ d = .tup ds ∧ Rps K B ds xs)
def SIX (t : TI) (m : M (List D)) : Prop := ∀ (σ τ : L2.St) (B H : Hp) (env pe env' : Env) (ds : List D) (R : It → Hp → Prop), SR K A B H (σ ++ τ) (env ++ pe) → σ.length = env.length → m env = some (ds, env') →
  (∀ B' H' J, Same B B' → σ.length = env'.length → SR K A B' H' (σ ++ τ) (env' ++ pe) → WD K J B' ds → R J H') → t σ H R
end
section
variable {K : PySem.W.Frag} {A : Anc} {B H : Hp} {σ τ : L2.St} {env pe : Env}

theorem SR.nil_app (S : SR K A B H σ env) : SR K A B H (σ ++ []) (env ++ []) := by
  rw [List.append_nil, List.append_nil]
  exact S
theorem SR.app_nil (S : SR K A B H (σ ++ []) (env ++ [])) : SR K A B H σ env := by
  rw [List.append_nil, List.append_nil] at S
  exact S
theorem FP.mono {B2 : Hp} {E : Ends} {env' : Env} {fl : Fl} (s : Same B B2) (h : FP K A B E env' fl) : FP K A B2 E env' fl := by
  cases fl with
  | nx => exact fun σ' B' H' s' => h σ' B' H' (s.trans s')
  | bk => exact fun σ' B' H' s' => h σ' B' H' (s.trans s')
  | ct => exact fun σ' B' H' s' => h σ' B' H' (s.trans s')
  | rt r => exact fun σ' B' H' v s' => h σ' B' H' v (s.trans s')

def sNil : SM := fun e => some (.nx, e)
def sSeq (m n : SM) : SM := fun e => match m e with
  | some (.nx, e') => n e'
  | some (fl, e') => some (fl, e')
  | none => none
theorem ss_nil : SSX K A tNext sNil := fun σ B H env env' fl E S e q => by
  cases e
  exact q σ B H (Same.refl _) S
theorem ss_seq {t u : TS} {m n : SM} (h : SSX K A t m) (h2 : SSX K A u n) : SSX K A (tSeq t u) (sSeq m n) := fun σ B H env env' fl E S e q => by
  unfold sSeq at e
  split at e
  · rename_i e1 he
    exact h σ B H env e1 .nx _ S he fun σ1 B1 H1 s1 S1 => h2 σ1 B1 H1 e1 env' fl E S1 e (q.mono s1)
  · rename_i f e1 hn he
    cases e
    refine h σ B H env env' fl _ S he ?_
    cases fl with
    | nx => exact (hn rfl).elim
    | bk => exact q
    | ct => exact q
    | rt r => exact q
  · cases e
def sPass : SM := fun e => some (.nx, e)
def sBrk : SM := fun e => some (.bk, e)
def sCnt : SM := fun e => some (.ct, e)
/-- a value is dropped -/
def sExp (m : M Vl) : SM := fun e => match m e with
  | some (_, e') => some (.nx, e')
  | none => none
theorem VR.drop {r : Vl} {v : V} (h : VR K A B H σ τ env pe r v) : SR K A B H (σ ++ τ) (env ++ pe) := by
  cases r with
  | im d => exact h.1
  | bo i => exact h.1
  | fr d =>
    have S : SR K A B H (σ ++ τ ++ [some v]) (env ++ pe ++ [.ow d]) := h
    refine S.front ?_
    have := S.len
    simp only [List.length_append, List.length_cons, List.length_nil] at this ⊢
    omega
theorem ss_exp {t : TE} {m : M Vl} (h : SEX K A t m) : SSX K A (tDrop t) (sExp m) := fun σ B H env env' fl E S e q => by
  unfold sExp at e
  split at e
  · rename_i r e1 he
    cases e
    exact h σ [] B H env [] _ r _ S.nil_app S.len he fun B1 H1 v s1 hl1 hv => q σ B1 H1 s1 hv.drop.app_nil
  · cases e
def sRet (m : M Vl) : SM := fun e => match m e with
  | some (r, e') => some (.rt r, e')
  | none => none
theorem ss_ret {t : TE} {m : M Vl} (h : SEX K A t m) : SSX K A (tRet t) (sRet m) := fun σ B H env env' fl E S e q => by
  unfold sRet at e
  split at e
  · rename_i r e1 he
    cases e
    exact h σ [] B H env [] _ r _ S.nil_app S.len he fun B1 H1 v s1 hl1 hv => q σ B1 H1 v s1 hl1 hv
  · cases e
def sRetN : SM := fun e => some (.rt (.im .non), e)
def sIf (c : M Bool) (m n : SM) : SM := fun e => match c e with
  | some (b, e') => if b = true then m e' else n e'
  | none => none
theorem ss_if {tc : TT} {t u : TS} {c : M Bool} {m n : SM} (hc : STX K A tc c) (h : SSX K A t m) (h2 : SSX K A u n) : SSX K A (tIfS tc t u) (sIf c m n) := fun σ B H env env' fl E S e q => by
  unfold sIf at e
  split at e
  · rename_i b e1 he
    refine hc σ [] B H env [] e1 b _ S.nil_app S.len he fun B1 H1 s1 hl1 S1 => ?_
    cases b with
    | true =>
      rw [if_pos rfl] at e ⊢
      exact h σ B1 H1 e1 env' fl E S1.app_nil e (q.mono s1)
    | false =>
      rw [if_neg Bool.false_ne_true] at e ⊢
      exact h2 σ B1 H1 e1 env' fl E S1.app_nil e (q.mono s1)
  · cases e

theorem wipe_set {i : Nat} {x : Option V} : ∀ {vs : List Nat} {σ : L2.St}, i ∈ vs → wipe (σ.set i x) vs = wipe σ vs
  | [], _, h => by cases h
  | v :: vs, σ, h => by
    show (wipe (σ.set i x) vs).set v none = (wipe σ vs).set v none
    by_cases hv : i ∈ vs
    · rw [wipe_set hv]
    · have e : i = v := by
        rcases List.mem_cons.mp h with e | e
        · exact e
        · exact absurd e hv
      subst e
      have c : ∀ (us : List Nat) (ρ : L2.St), wipe (ρ.set i x) us = if i ∈ us then wipe ρ us else (wipe ρ us).set i x := by
        intro us
        induction us with
        | nil => intro ρ; rw [if_neg (by simp)]; rfl
        | cons u us ih =>
          intro ρ
          show (wipe (ρ.set i x) us).set u none = _
          rw [ih ρ]
          by_cases h1 : i ∈ us
          · rw [if_pos h1, if_pos (List.mem_cons_of_mem _ h1)]
            rfl
          · rw [if_neg h1]
            by_cases h2 : i = u
            · subst h2
              rw [if_pos List.mem_cons_self, List.set_set]
              rfl
            · rw [if_neg (by simp [h1, h2])]
              show ((wipe ρ us).set i x).set u none = ((wipe ρ us).set u none).set i x
              exact List.set_comm _ _ h2
      rw [c vs σ, if_neg hv, List.set_set]
/-- a name -/
def gN (i : Nat) : Vl → M Unit := fun r env => if i < env.length then match r with
    | .im d => some ((), env.set i (.im d))
    | .fr d => some ((), env.set i (.ow d))
    | .bo j => match frz (.bo j) env with
      | some (d, e1) => some ((), e1.set i (.im d))
      | none => none
  else none
theorem getE_snoc {α : Type} {l : List α} {x y : α} {i : Nat} (h : (l ++ [x])[i]? = some y) : (i < l.length ∧ l[i]? = some y) ∨ (i = l.length ∧ y = x) := by
  by_cases hi : i < l.length
  · rw [List.getElem?_append_left hi] at h
    exact .inl ⟨hi, h⟩
  · rw [List.getElem?_append_right (by omega)] at h
    have h1 : i - l.length < [x].length := (List.getElem?_eq_some_iff.mp h).1
    have h3 : i - l.length = 0 := by simpa using h1
    rw [h3] at h
    exact .inr ⟨by omega, (Option.some.inj h).symm⟩
/-- the last slot is moved to place i -/
theorem SR.move {i : Nat} {ov : Option V} {sl : Sl} (S : SR K A B H (σ ++ [ov]) (env ++ [sl])) (hl : σ.length = env.length) (hi : i < env.length) : SR K A B H (σ.set i ov) (env.set i sl) := by
  refine S.sub (by simp [hl]) (fun j => if j = i then env.length else j) (fun a b s1 s2 e1 e2 _ _ h => ?_) (fun j s e _ => ?_)
  · have ha : a < env.length := by simpa using (List.getElem?_eq_some_iff.mp e1).1
    have hb : b < env.length := by simpa using (List.getElem?_eq_some_iff.mp e2).1
    split at h <;> split at h <;> omega
  · have hj : j < env.length := by simpa using (List.getElem?_eq_some_iff.mp e).1
    split
    · rename_i q
      subst q
      rw [List.getElem?_set_self hi] at e
      cases e
      refine ⟨by simp, ?_⟩
      rw [List.getElem?_set_self (by rw [hl]; exact hi), ← hl]
      simp
    · rename_i q
      rw [List.getElem?_set_ne (fun z => q z.symm)] at e ⊢
      refine ⟨by rw [List.getElem?_append_left hj]; exact e, ?_⟩
      rw [List.getElem?_append_left (by rw [hl]; exact hj)]
theorem sg_name {i : Nat} : SGX K A [i] (gName i) (gN i) := fun σ τ B H env pe env' r v Q hv hl e q => by
  unfold gN at e
  split at e
  · rename_i hi
    have hiσ : i < σ.length := by rw [hl]; exact hi
    have wp : ∀ vs : List Nat, (∀ j ∈ [i], j ∈ vs) → wipe (σ.set i (some v)) vs = wipe σ vs := fun vs h => wipe_set (h i (by simp))
    cases r with
    | im d =>
      cases e
      obtain ⟨S, rr⟩ := hv
      refine q _ B H (Same.refl _) (by simp [hl]) wp ?_
      have := S.setIm (i := i) rr
      rw [List.set_append_left _ _ hiσ, List.set_append_left _ _ hi] at this
      exact this
    | fr d =>
      cases e
      have S : SR K A B H (σ ++ τ ++ [some v]) (env ++ pe ++ [.ow d]) := hv
      have hl2 : (σ ++ τ).length = (env ++ pe).length := by
        have := S.len
        simp only [List.length_append, List.length_cons, List.length_nil] at this ⊢
        omega
      refine q _ B H (Same.refl _) (by simp [hl]) wp ?_
      have := S.move (i := i) hl2 (by simp only [List.length_append]; omega)
      rw [List.set_append_left _ _ hiσ, List.set_append_left _ _ hi] at this
      exact this
    | bo j =>
      dsimp only at e
      split at e
      · rename_i d e1 he
        cases e
        obtain ⟨S, hj⟩ := hv
        obtain ⟨B1, s1, S1, hl1, rr⟩ := frz_ok (r := .bo j) S hl hj he
        refine q _ B1 H s1 (by simp [hl1]) wp ?_
        have := S1.setIm (i := i) rr
        rw [List.set_append_left _ _ hiσ, List.set_append_left _ _ (by rw [← hl1]; exact hiσ)] at this
        exact this
      · cases e
  · cases e
def gsN : List D → M Unit := fun ds e => match ds with
  | [] => some ((), e)
  | _ => none
def gsC (g : Vl → M Unit) (gs : List D → M Unit) : List D → M Unit := fun ds e => match ds with
  | d :: r => match g (.im d) e with
    | some (_, e1) => gs r e1
    | none => none
  | [] => none
theorem sgs_nil : SGsX K A [] gNil gsN := fun σ τ B H env pe env' ds vs Q S rr hl e q => by
  unfold gsN at e
  split at e
  · cases e
    cases rr
    exact ⟨rfl, q σ B H (Same.refl _) hl (fun _ _ => rfl) S⟩
  · cases e
theorem sgs_cons {ts us : List Nat} {t : TG} {u : TGs} {g : Vl → M Unit} {gs : List D → M Unit} (h : SGX K A ts t g) (h2 : SGsX K A us u gs) : SGsX K A (ts ++ us) (gCons t u) (gsC g gs) := fun σ τ B H env pe env' ds vs Q S rr hl e q => by
  unfold gsC at e
  split at e
  · rename_i d r
    split at e
    · rename_i e1 he
      cases rr with
      | @cons _ v _ vr r1 r2 =>
        refine ⟨v, vr, rfl, h σ τ B H env pe e1 (.im d) v _ ⟨S, r1⟩ hl he fun σ1 B1 H1 s1 hl1 w1 S1 => ?_⟩
        refine h2 σ1 τ B1 H1 e1 pe env' r vr Q S1 (r2.mono s1) hl1 e fun σ2 B2 H2 s2 hl2 w2 S2 => ?_
        refine q σ2 B2 H2 (s1.trans s2) hl2 (fun ws hw => ?_) S2
        rw [w2 ws fun i hi => hw i (List.mem_append_right _ hi), w1 ws fun i hi => hw i (List.mem_append_left _ hi)]
    · cases e
  · cases e
/-- (a, b, ..) of a tuple -/
def gT (n : Nat) (gs : List D → M Unit) : Vl → M Unit := fun r e => match r with
  | .im (.tup ds) => if ds.length = n then gs ds e else none
  | _ => none
theorem sg_tup {ts : List Nat} {t : TGs} {gs : List D → M Unit} {n : Nat} (h : SGsX K A ts t gs) : SGX K A ts (gTup K n t) (gT n gs) := fun σ τ B H env pe env' r v Q hv hl e q => by
  unfold gT at e
  split at e
  · rename_i ds
    split at e
    · rename_i hn
      obtain ⟨S, rr⟩ := hv
      cases rr with
      | @tup a xs _ hs r2 =>
        exact ⟨a, xs, rfl, (hs.same S.same).sq, by rw [← r2.length]; exact hn, h σ τ B H env pe env' ds xs Q S r2 hl e q⟩
    · cases e
  · cases e
def sAsg (m : M Vl) (g : Vl → M Unit) : SM := fun e => match m e with
  | some (r, e1) => match g r e1 with
    | some (_, e2) => some (.nx, e2)
    | none => none
  | none => none
theorem ss_asg {ts : List Nat} {t : TE} {u : TG} {m : M Vl} {g : Vl → M Unit} (h : SEX K A t m) (h2 : SGX K A ts u g) : SSX K A (tAsg t u) (sAsg m g) := fun σ B H env env' fl E S e q => by
  unfold sAsg at e
  split at e
  · rename_i r e1 he
    split at e
    · rename_i e2 hg
      cases e
      refine h σ [] B H env [] e1 r _ S.nil_app S.len he fun B1 H1 v s1 hl1 hv => ?_
      exact h2 σ [] B1 H1 e1 [] _ r v _ hv hl1 hg fun σ2 B2 H2 s2 hl2 _ S2 => q σ2 B2 H2 (s1.trans s2) S2.app_nil
    · cases e
  · cases e

theorem WD.yield {J : It} {B0 : Hp} {items : List D} (w : WD K J B0 items) {i : Nat} {x : V} {H' : Hp} {d : D} (hi : items[i]? = some d) (s : Same B0 B) (S : SR K A B H σ env) (y : J.yld i H x H') :
    ∃ B', Same B B' ∧ SR K A B' H' σ env ∧ Rp K B' d x := by
  obtain ⟨d', hd, h⟩ := w.yields i H B x H' (List.getElem?_eq_some_iff.mp hi).1 s S.same y
  rw [hi] at hd
  cases hd
  rcases h with ⟨rfl, r⟩ | ⟨T, xs, ds, rfl, nT, rfl, rfl, r⟩ | ⟨T, xs, ds, rfl, hT, rfl, rfl, r⟩
  · exact ⟨B, Same.refl _, S, r⟩
  · obtain ⟨S1, s1⟩ := S.laidF (o := .tup xs) nT
    exact ⟨_, s1, S1, .tup upd_same (r.mono s1)⟩
  · obtain ⟨B', s1, S1, e1⟩ := S.freezeT hT
    exact ⟨B', s1, S1, .tup e1 (r.mono s1)⟩
def forL (g : Vl → M Unit) (b : SM) : List D → SM
  | [], e => some (.nx, e)
  | d :: ds, e => match g (.im d) e with
    | none => none
    | some (_, e1) => match b e1 with
      | some (.nx, e2) => forL g b ds e2
      | some (.ct, e2) => forL g b ds e2
      | some (.bk, e2) => some (.nx, e2)
      | some (.rt v, e2) => some (.rt v, e2)
      | none => none
def sFor (mi : M (List D)) (g : Vl → M Unit) (b : SM) : SM := fun e => match mi e with
  | some (ds, e1) => forL g b ds e1
  | none => none
theorem ss_for {ts : List Nat} {wi : TI} {t : TG} {tb : TS} {mi : M (List D)} {g : Vl → M Unit} {b : SM} (hi : SIX K A wi mi) (hg : SGX K A ts t g) (hb : SSX K A tb b) : SSX K A (tFor wi t tb) (sFor mi g b) := fun σ B H env env' fl E S e q => by
  unfold sFor at e
  split at e
  · rename_i ds e1 he
    refine hi σ [] B H env [] e1 ds _ S.nil_app S.len he fun B1 H1 J s1 hl1 S1 w => ?_
    refine ⟨fun i m σ' H' => m = ds.length - i ∧ i ≤ ds.length ∧ ∃ B' en, Same B1 B' ∧ SR K A B' H' σ' en ∧ forL g b (ds.drop i) en = some (fl, env'),
      ⟨ds.length, by omega, by omega, B1, e1, Same.refl _, S1.app_nil, by simpa using e⟩, ?_⟩
    rintro i m σ' H' ⟨rfl, hi, B2, en, s2, S2, ef⟩
    by_cases hlt : i < ds.length
    · have hd : ds.drop i = ds[i] :: ds.drop (i + 1) := List.drop_eq_getElem_cons hlt
      rw [hd] at ef
      unfold forL at ef
      split at ef
      · cases ef
      · rename_i e2 hge
        refine .inr ⟨w.goes i H' B2 hlt s2 S2.same, fun σ3 H3 => i + 1 ≤ ds.length ∧ ∃ B' en, Same B1 B' ∧ SR K A B' H3 σ3 en ∧ forL g b (ds.drop (i + 1)) en = some (fl, env'),
          fun σ3 H3 h => ⟨ds.length - (i + 1), by omega, rfl, h⟩, fun x H3 y => ?_⟩
        obtain ⟨B3, s3, S3, r3⟩ := w.yield (List.getElem?_eq_getElem hlt) s2 S2 y
        refine hg σ' [] B3 H3 en [] e2 (.im ds[i]) x _ ⟨S3.nil_app, r3⟩ S2.len hge fun σ4 B4 H4 s4 hl4 _ S4 => ?_
        have S4 := S4.app_nil
        have s14 : Same B1 B4 := (s2.trans s3).trans s4
        split at ef
        · rename_i e3 hbe
          exact hb σ4 B4 H4 e2 e3 .nx _ S4 hbe fun σ5 B5 H5 s5 S5 => ⟨by omega, B5, e3, s14.trans s5, S5, ef⟩
        · rename_i e3 hbe
          exact hb σ4 B4 H4 e2 e3 .ct _ S4 hbe fun σ5 B5 H5 s5 S5 => ⟨by omega, B5, e3, s14.trans s5, S5, ef⟩
        · rename_i e3 hbe
          cases ef
          exact hb σ4 B4 H4 e2 _ .bk _ S4 hbe fun σ5 B5 H5 s5 S5 => q σ5 B5 H5 (s1.trans (s14.trans s5)) S5
        · rename_i v e3 hbe
          cases ef
          exact hb σ4 B4 H4 e2 _ (.rt v) _ S4 hbe fun σ5 B5 H5 v s5 => q σ5 B5 H5 v (s1.trans (s14.trans s5))
        · cases ef
    · have ei : i = ds.length := by omega
      subst ei
      rw [List.drop_length] at ef
      cases ef
      exact .inl ⟨w.stops H' B2 s2 S2.same, q σ' B2 H' (s1.trans s2) S2⟩
  · cases e
/-- while, n turns at most -/
def whlL (c : M Bool) (b : SM) : Nat → SM
  | 0, _ => none
  | n + 1, e => match c e with
    | none => none
    | some (false, e1) => some (.nx, e1)
    | some (true, e1) => match b e1 with
      | some (.nx, e2) => whlL c b n e2
      | some (.ct, e2) => whlL c b n e2
      | some (.bk, e2) => some (.nx, e2)
      | some (.rt v, e2) => some (.rt v, e2)
      | none => none
def sWhl (n : Nat) (c : M Bool) (b : SM) : SM := whlL c b n
def wipeE (e : Env) : List Nat → Env
  | [] => e
  | v :: vs => (wipeE e vs).set v .em
theorem wipeE_length (e : Env) : ∀ vs : List Nat, (wipeE e vs).length = e.length
  | [] => rfl
  | v :: vs => by
    show ((wipeE e vs).set v .em).length = _
    rw [List.length_set, wipeE_length e vs]
theorem SR.wipe (S : SR K A B H (σ ++ τ) (env ++ pe)) (hl : σ.length = env.length) : ∀ vs : List Nat, SR K A B H (L2.wipe σ vs ++ τ) (wipeE env vs ++ pe)
  | [] => S
  | v :: vs => by
    have S1 := SR.wipe S hl vs
    show SR K A B H ((L2.wipe σ vs).set v none ++ τ) ((wipeE env vs).set v .em ++ pe)
    by_cases hv : v < σ.length
    · have := S1.setEm (i := v) (ov := none)
      rw [List.set_append_left _ _ (by rw [wipe_length]; exact hv), List.set_append_left _ _ (by rw [wipeE_length, ← hl]; exact hv)] at this
      exact this
    · rw [List.set_eq_of_length_le (by rw [wipe_length]; omega), List.set_eq_of_length_le (by rw [wipeE_length, ← hl]; omega)]
      exact S1
def calmS : Option Sl → Bool
  | some (.ow _) => false
  | some (.io _ _) => false
  | some (.bk _ _) => false
  | _ => true
/-- the slots of the block's own names as they were ahead -/
def unwipe (e0 e : Env) : List Nat → Env
  | [] => e
  | v :: vs => match e0[v]? with
    | some sl => (unwipe e0 e vs).set v sl
    | none => unwipe e0 e vs
def compL (vs : List Nat) (g : Vl → M Unit) (tt : M Bool) (te : M Vl) : List D → M (List D)
  | [], e => some ([], e)
  | d :: ds, e => match g (.im d) e with
    | none => none
    | some (_, e1) => match tt e1 with
      | none => none
      | some (false, e2) => compL vs g tt te ds (wipeE e2 vs)
      | some (true, e2) => match te e2 with
        | none => none
        | some (r, e3) => match frz r.hold e3 with
          | none => none
          | some (y, e4) => match compL vs g tt te ds (wipeE e4 vs) with
            | none => none
            | some (ys, e5) => some (y :: ys, e5)
def eComp (vs : List Nat) (mi : M (List D)) (g : Vl → M Unit) (tt : M Bool) (te : M Vl) : M Vl := fun e => match mi e with
  | none => none
  | some (ds, e1) => if (vs.all fun v => calmS e1[v]?) = true then match compL vs g tt te ds (wipeE e1 vs) with
      | none => none
      | some (ys, e2) => if small ys.length = true then some (.fr (.lst ys), unwipe e1 e2 vs) else none
    else none
/-- behind the block: the own names' slots are as they were -/
theorem SR.unwiped {e1 : Env} : ∀ {vs : List Nat} {B : Hp} {e2 : Env}, vs.Nodup → SR K A B H (L2.wipe σ vs ++ τ) (e2 ++ pe) → e2.length = σ.length → (∀ v ∈ vs, ∀ sl ov, e1[v]? = some sl → σ[v]? = some ov → SlOk K A B H sl ov) → (∀ v ∈ vs, calmS e1[v]? = true) → e1.length = σ.length →
    SR K A B H (σ ++ τ) (unwipe e1 e2 vs ++ pe) ∧ (unwipe e1 e2 vs).length = σ.length := by
  intro vs
  induction vs generalizing σ with
  | nil => exact fun _ S h _ _ _ => ⟨S, h⟩
  | cons v vs ih =>
    intro B e2 nd S h hs hc h1
    obtain ⟨nd1, nd2⟩ := List.nodup_cons.mp nd
    have hu : (unwipe e1 e2 (v :: vs)) = match e1[v]? with
      | some sl => (unwipe e1 e2 vs).set v sl
      | none => unwipe e1 e2 vs := rfl
    -- σ with v forgotten
    have ew : L2.wipe σ (v :: vs) = L2.wipe (σ.set v none) vs := by
      show (L2.wipe σ vs).set v none = L2.wipe (σ.set v none) vs
      have c : ∀ (us : List Nat), L2.wipe (σ.set v none) us = (L2.wipe σ us).set v none := by
        intro us
        induction us with
        | nil => rfl
        | cons u us ih2 =>
          show (L2.wipe (σ.set v none) us).set u none = ((L2.wipe σ us).set u none).set v none
          rw [ih2]
          by_cases q : v = u
          · subst q; rfl
          · exact List.set_comm _ _ q
      exact (c vs).symm
    rw [ew] at S
    by_cases hv : v < σ.length
    · obtain ⟨sl, hsl⟩ : ∃ sl, e1[v]? = some sl := ⟨_, List.getElem?_eq_getElem (by omega)⟩
      obtain ⟨ov, hov⟩ : ∃ ov, σ[v]? = some ov := ⟨_, List.getElem?_eq_getElem hv⟩
      -- v itself is calm: em or im
      have ok := hs v List.mem_cons_self sl ov hsl hov
      have cl := hc v List.mem_cons_self
      rw [hsl] at cl
      have IH := ih (σ := σ.set v none) (B := B) (e2 := e2) nd2 S (by simpa using h) (fun u hu sl' ov' g1 g2 => ?_) (fun u hu => hc u (List.mem_cons_of_mem _ hu)) (by simpa using h1)
      · obtain ⟨S1, hl1⟩ := IH
        rw [hu, hsl]
        dsimp only
        have hl1 : (unwipe e1 e2 vs).length = σ.length := by simpa using hl1
        have key : ∀ x, (σ.set v x).set v ov = σ := fun x => by
          rw [List.set_set]
          exact list_set_self hov
        refine ⟨?_, by simpa using hl1⟩
        cases ok with
        | em =>
          have := S1.setEm (i := v) (ov := ov)
          rw [List.set_append_left _ _ (by simpa using hv), List.set_append_left _ _ (by omega), key] at this
          exact this
        | im rr =>
          rename_i d v'
          have := S1.setIm (i := v) rr
          rw [List.set_append_left _ _ (by simpa using hv), List.set_append_left _ _ (by omega), key] at this
          exact this
        | ow _ _ _ => cases cl
        | io _ _ => cases cl
        | bk _ _ _ _ => cases cl
      · by_cases q : u = v
        · exact absurd (q ▸ hu) nd1
        · rw [List.getElem?_set_ne (fun z => q z.symm)] at g2
          exact hs u (List.mem_cons_of_mem _ hu) sl' ov' g1 g2
    · have hn : e1[v]? = none := List.getElem?_eq_none (by omega)
      have es : σ.set v none = σ := List.set_eq_of_length_le (by omega)
      rw [es] at S
      rw [hu, hn]
      exact ih nd2 S h (fun u hu => hs u (List.mem_cons_of_mem _ hu)) (fun u hu => hc u (List.mem_cons_of_mem _ hu)) h1
theorem wipe_wipe : ∀ (vs us : List Nat) (ρ : L2.St), (∀ v ∈ us, v ∈ vs) → L2.wipe (L2.wipe ρ us) vs = L2.wipe ρ vs
  | vs, [], ρ, _ => rfl
  | vs, u :: us, ρ, h => by
    show L2.wipe ((L2.wipe ρ us).set u none) vs = _
    rw [wipe_set (h u List.mem_cons_self)]
    exact wipe_wipe vs us ρ fun v hv => h v (List.mem_cons_of_mem _ hv)
theorem sx_comp {ts vs : List Nat} {wi : TI} {t : TG} {tt : TT} {te : TE} {mi : M (List D)} {g : Vl → M Unit} {mt : M Bool} {me : M Vl} (nd : vs.Nodup) (ht : ∀ i ∈ ts, i ∈ vs) (hi : SIX K A wi mi) (hg : SGX K A ts t g) (hc : STX K A tt mt) (he : SEX K A te me) :
    SEX K A (tLc wi t tt te vs) (eComp vs mi g mt me) := fun σ τ B H env pe env' r Q S hl e q => by
  unfold eComp at e
  split at e
  · cases e
  · rename_i ds e1 hie
    split at e
    · rename_i hcalm
      split at e
      · cases e
      · rename_i ys e2 hcl
        split at e
        · rename_i hsm
          cases e
          have hsz : ys.length ≤ sizeLine := of_decide_eq_true hsm
          refine hi σ τ B H env pe e1 ds _ S hl hie fun B1 H1 J s1 hl1 S1 w D hD => ?_
          have S2 : SR K A B1 (upd H1 D (.lst [])) (L2.wipe σ vs ++ τ ++ [some (.ref D)]) (wipeE e1 vs ++ pe ++ [.ow (.lst [])]) := (S1.wipe hl1 vs).push hD (.lst .nil)
          refine ⟨fun i m H' => m = ds.length - i ∧ i ≤ ds.length ∧ ∃ B' en acc rest, Same B1 B' ∧ SR K A B' H' (L2.wipe σ vs ++ (τ ++ [some (.ref D)])) (en ++ (pe ++ [.ow (.lst acc)])) ∧ σ.length = en.length ∧ compL vs g mt me (ds.drop i) en = some (rest, e2) ∧ acc ++ rest = ys,
            ⟨ds.length, by omega, by omega, B1, wipeE e1 vs, [], ys, Same.refl _, by simpa [List.append_assoc] using S2, by rw [wipeE_length]; exact hl1, by simpa using hcl, rfl⟩, ?_⟩
          rintro i m H' ⟨rfl, hi', B3, en, acc, rest, s3, S3, hl3, ec, ey⟩
          by_cases hlt : i < ds.length
          · have hd : ds.drop i = ds[i] :: ds.drop (i + 1) := List.drop_eq_getElem_cons hlt
            rw [hd] at ec
            unfold compL at ec
            split at ec
            · cases ec
            · rename_i e3 hge
              refine .inr ⟨w.goes i H' B3 hlt s3 S3.same, fun H3 => i + 1 ≤ ds.length ∧ ∃ B' en acc rest, Same B1 B' ∧ SR K A B' H3 (L2.wipe σ vs ++ (τ ++ [some (.ref D)])) (en ++ (pe ++ [.ow (.lst acc)])) ∧ σ.length = en.length ∧ compL vs g mt me (ds.drop (i + 1)) en = some (rest, e2) ∧ acc ++ rest = ys,
                fun H3 h => ⟨ds.length - (i + 1), by omega, rfl, h⟩, fun x H3 y => ?_⟩
              obtain ⟨B4, s4, S4, r4⟩ := w.yield (List.getElem?_eq_getElem hlt) s3 S3 y
              refine hg (L2.wipe σ vs) (τ ++ [some (.ref D)]) B4 H3 en (pe ++ [.ow (.lst acc)]) e3 (.im ds[i]) x _ ⟨S4, r4⟩ (by rw [wipe_length]; exact hl3) hge fun σ5 B5 H5 s5 hl5 w5 S5 => ?_
              have wv : L2.wipe σ5 vs = L2.wipe σ vs := by
                rw [w5 vs ht, wipe_wipe vs vs σ fun _ h => h]
              have l5 : σ5.length = σ.length := by
                have := congrArg List.length wv
                rwa [wipe_length, wipe_length] at this
              refine ⟨wv, ?_⟩
              have s35 : Same B1 B5 := (s3.trans s4).trans s5
              split at ec
              · cases ec
              · rename_i e4 hte
                refine hc σ5 (τ ++ [some (.ref D)]) B5 H5 e3 (pe ++ [.ow (.lst acc)]) e4 false _ S5 hl5 hte fun B6 H6 s6 hl6 S6 => ?_
                rw [if_neg Bool.false_ne_true]
                have S7 := S6.wipe hl6 vs
                rw [wv] at S7
                exact ⟨by omega, B6, wipeE e4 vs, acc, rest, s35.trans s6, S7, by rw [wipeE_length]; omega, ec, ey⟩
              · rename_i e4 hte
                refine hc σ5 (τ ++ [some (.ref D)]) B5 H5 e3 (pe ++ [.ow (.lst acc)]) e4 true _ S5 hl5 hte fun B6 H6 s6 hl6 S6 => ?_
                rw [if_pos rfl]
                split at ec
                · cases ec
                · rename_i r e5 hee
                  split at ec
                  · cases ec
                  · rename_i yd e6 hfe
                    split at ec
                    · cases ec
                    · rename_i ys' e7 hcl2
                      cases ec
                      refine he σ5 (τ ++ [some (.ref D)]) B6 H6 e4 (pe ++ [.ow (.lst acc)]) e5 r _ S6 hl6 hee fun B7 H7 v s7 hl7 hv => ?_
                      obtain ⟨B8, s8, S8, hh⟩ := hv.held
                      obtain ⟨B9, s9, S9, hl9, r9⟩ := frz_ok S8 hl7 hh hfe
                      have S10 := S9.wipe hl9 vs
                      rw [wv] at S10
                      -- the list at D grows
                      have ln : (L2.wipe σ vs ++ τ).length = (wipeE e6 vs ++ pe).length := by
                        have := S10.len
                        simp only [List.length_append, List.length_cons, List.length_nil] at this ⊢
                        omega
                      have g1 : (wipeE e6 vs ++ (pe ++ [Sl.ow (.lst acc)]))[(wipeE e6 vs ++ pe).length]? = some (.ow (.lst acc)) := by
                        rw [← List.append_assoc]
                        simp
                      have g2 : (L2.wipe σ vs ++ (τ ++ [some (V.ref D)]))[(wipeE e6 vs ++ pe).length]? = some (some (.ref D)) := by
                        rw [← List.append_assoc, ← ln]
                        simp
                      cases S10.slot _ _ _ g1 g2 with
                      | ow b0 h0 c0 =>
                        generalize ho : H7 D = o at c0
                        cases c0 with
                        | @lst accV _ ra =>
                          have la : acc.length < ys.length := by
                            rw [← ey, List.length_append, List.length_cons]
                            omega
                          refine ⟨accV, rfl, by rw [← ra.length]; omega, by omega, B9, wipeE e6 vs, acc ++ [yd], ys', (((s35.trans s6).trans s7).trans s8).trans s9, ?_, by rw [wipeE_length]; omega, hcl2, by rw [← ey]; simp⟩
                          have W := S10.write (sl' := .ow (.lst (acc ++ [yd]))) (o := .lst (accV ++ [v])) g1 (.inl ⟨rfl, rfl⟩) g2 (.lst (Rps.app ra (.one r9)))
                          have es : (wipeE e6 vs ++ (pe ++ [Sl.ow (.lst acc)])).set (wipeE e6 vs ++ pe).length (.ow (.lst (acc ++ [yd]))) = wipeE e6 vs ++ (pe ++ [.ow (.lst (acc ++ [yd]))]) := by
                            rw [← List.append_assoc, ← List.append_assoc]
                            simp
                          rw [es] at W
                          exact W
          · have ei : i = ds.length := by omega
            subst ei
            rw [List.drop_length] at ec
            cases ec
            refine .inl ⟨w.stops H' B3 s3 S3.same, ?_⟩
            have ea : acc = ys := by simpa using ey
            subst ea
            have U := SR.unwiped (σ := σ) (vs := vs) (e1 := e1) nd S3 hl3.symm (fun v hv sl ov g1 g2 => ?_) (fun v hv => (List.all_eq_true.mp hcalm) v hv) hl1.symm
            · obtain ⟨U1, U2⟩ := U
              refine q B3 H' (.ref D) (s1.trans s3) U2.symm ?_
              show SR K A B3 H' (σ ++ τ ++ [some (.ref D)]) (unwipe e1 e2 vs ++ pe ++ [.ow (.lst acc)])
              rw [List.append_assoc, List.append_assoc]
              exact U1
            · have ok := S1.at hl1 g1 g2
              have cl := (List.all_eq_true.mp hcalm) v hv
              rw [g1] at cl
              cases ok with
              | em => exact .em
              | im rr => exact .im (rr.mono s3)
              | ow _ _ _ => cases cl
              | io _ _ => cases cl
              | bk _ _ _ _ => cases cl
        · cases e
    · cases e
end
end PD
namespace PD
variable [PD.TabL]
open PySem PySem.Spec PyProof.Rows L2

mutual
def D.nm : D → Bool
  | .non => true
  | .bl _ => true
  | .int _ => true
  | .str _ => true
  | .tup ds => nms ds
  | .lst _ => false
  | .dk _ => false
  | .dt _ => false
  | .sc _ => false
  | .fe => false
  | .ty _ => true
  | .txt _ => true
  | .tp ds => nms ds
  | .kf _ => false
  | .tf _ => false
  | .ex _ _ _ => false
  | .cl _ => false
  | .nt _ => false
  | .kt _ => true
def nms : List D → Bool
  | [] => true
  | d :: ds => d.nm && nms ds
end
/-- a container's items are such -/
def D.nmC : D → Bool
  | .lst ds => nms ds
  | .dk es => nms (es.map (·.2))
  | .dt es => nms (es.map (·.2))
  | _ => false
def Vl.nm : Vl → Bool
  | .im d => d.nm
  | .fr d => d.nmC
  | .bo _ => false
section
variable {K : PySem.W.Frag} {B B2 : Hp}
mutual
theorem Rp.thaw (hB : ∀ a o, TuO o → B a = some o → B2 a = some o) : ∀ {d : D} {v : V}, d.nm = true → Rp K B d v → Rp K B2 d v
  | _, _, _, .non => .non
  | _, _, _, .bl b => .bl b
  | _, _, _, .int i => .int i
  | _, _, _, .str x h => .str x h
  | _, _, _, .ty n => .ty n
  | _, _, _, .txt x => .txt x
  | _, _, n, .tup h r => .tup (hB _ _ True.intro h) (Rps.thaw hB (by simpa [D.nm] using n) r)
  | _, _, n, .tp h d r => .tp (hB _ _ True.intro h) d (Rps.thaw hB (by simpa [D.nm] using n) r)
  | _, _, n, .lst h r => by simp [D.nm] at n
  | _, _, n, .dk h e r => by simp [D.nm] at n
  | _, _, n, .sc h => by simp [D.nm] at n
  | _, _, n, .fe h => by simp [D.nm] at n
  | _, _, n, .dt h e r => by simp [D.nm] at n
  | _, _, n, .kf h e r => by simp [D.nm] at n
  | _, _, n, .tf h e r => by simp [D.nm] at n
  | _, _, n, .ex _ _ _ => by simp [D.nm] at n
  | _, _, n, .cl _ => by simp [D.nm] at n
  | _, _, n, .nt _ => by simp [D.nm] at n
  | _, _, n, .kt h e => .kt h e
theorem Rps.thaw (hB : ∀ a o, TuO o → B a = some o → B2 a = some o) : ∀ {ds : List D} {vs : List V}, nms ds = true → Rps K B ds vs → Rps K B2 ds vs
  | _, _, _, .nil => .nil
  | d :: ds, _, n, .cons h r => by
    have n' : d.nm = true ∧ nms ds = true := by simpa [nms] using n
    exact .cons (Rp.thaw hB n'.1 h) (Rps.thaw hB n'.2 r)
end
theorem Cont.thaw (hB : ∀ a o, TuO o → B a = Option.some o → B2 a = Option.some o) {d : D} {o : Option HO} (n : d.nmC = true) (h : Cont K B d o) : Cont K B2 d o := by
  cases h with
  | lst r => exact .lst (r.thaw hB n)
  | dk e r => exact .dk e (r.thaw hB n)
  | dt e r => exact .dt e (r.thaw hB n)
end

/-- sem: of the arguments' contents the answer, and the parameters' contents behind it; sig: which parameters are changed -/
structure Fs where
  sem : List D → Option (Vl × List D)
  sig : List Bool
def mkE : Nat → List Bool → List D → Env
  | k, b :: bs, d :: ds => (if b = true then .io k d else .im d) :: mkE (k + 1) bs ds
  | _, _, _ => []
theorem mkE_get : ∀ {sig : List Bool} {ds : List D} {k j : Nat} {sl : Sl}, (mkE k sig ds)[j]? = some sl → ∃ b d, sig[j]? = some b ∧ ds[j]? = some d ∧ sl = if b = true then .io (k + j) d else .im d
  | [], ds, k, j, sl, h => by simp [mkE] at h
  | b :: bs, [], k, j, sl, h => by simp [mkE] at h
  | b :: bs, d :: ds, k, 0, sl, h => by
    simp [mkE] at h
    exact ⟨b, d, rfl, rfl, h.symm⟩
  | b :: bs, d :: ds, k, j + 1, sl, h => by
    have h : (mkE (k + 1) bs ds)[j]? = some sl := by simpa [mkE] using h
    obtain ⟨b', d', h1, h2, h3⟩ := mkE_get h
    exact ⟨b', d', by simpa using h1, by simpa using h2, by rw [h3, show k + 1 + j = k + (j + 1) by omega]⟩
theorem mkE_at : ∀ {sig : List Bool} {ds : List D} {k j : Nat} {b : Bool} {d : D}, sig[j]? = some b → ds[j]? = some d → (mkE k sig ds)[j]? = some (if b = true then .io (k + j) d else .im d)
  | [], ds, k, j, b, d, h, _ => by simp at h
  | _ :: _, [], k, j, b, d, _, h => by simp at h
  | b :: bs, d :: ds, k, 0, _, _, h1, h2 => by
    simp at h1 h2
    subst h1 h2
    rfl
  | b :: bs, d :: ds, k, j + 1, b', d', h1, h2 => by
    have h := mkE_at (k := k + 1) (j := j) (by simpa using h1) (by simpa using h2)
    have : (mkE k (b :: bs) (d :: ds))[j + 1]? = (mkE (k + 1) bs ds)[j]? := by simp [mkE]
    rw [this, h, show k + 1 + j = k + (j + 1) by omega]
theorem mkE_length : ∀ {sig : List Bool} {ds : List D} {k : Nat}, ds.length = sig.length → (mkE k sig ds).length = sig.length
  | [], [], _, _ => rfl
  | [], _ :: _, _, h => by simp at h
  | _ :: _, [], _, h => by simp at h
  | b :: bs, d :: ds, k, h => by
    show (mkE (k + 1) bs ds).length + 1 = bs.length + 1
    rw [mkE_length (by simpa using h)]

/-- a def's promise -/
def spF (K : PySem.W.Frag) (F : Fs) : Sp := fun vs H Q _ => ∃ (A : Anc) (B : Hp) (ds ds' : List D) (r : Vl), A.H0 = noT H ∧ A.B0 = B ∧ SR K A B H (vs.map some) (mkE 0 F.sig ds) ∧ ds.length = F.sig.length ∧ F.sem ds = some (r, ds') ∧
  ∀ B' H' v, Same B B' → ds'.length = ds.length → VRp K A B' H' (vs.map some) (mkE 0 F.sig ds') r v → Q v H'

def ioIx : List Bool → List Vl → List Nat
  | true :: bs, .bo i :: rs => i :: ioIx bs rs
  | _ :: bs, _ :: rs => ioIx bs rs
  | _, _ => []
def mutAt (e : Env) (i : Nat) : Bool := match e[i]? with
  | some sl => sl.mut
  | none => false
def brIx (e : Env) : List Bool → List Vl → List Nat
  | false :: bs, .bo i :: rs => if mutAt e i = true then i :: brIx e bs rs else brIx e bs rs
  | _ :: bs, _ :: rs => brIx e bs rs
  | _, _ => []
def ioAll (e : Env) : List Bool → List Vl → Bool
  | [], [] => true
  | true :: bs, .bo i :: rs => mutAt e i && ioAll e bs rs
  | false :: bs, _ :: rs => ioAll e bs rs
  | _, _ => false
def putC (e : Env) (i : Nat) (d : D) : Env := match e[i]? with
  | some (.ow _) => e.set i (.ow d)
  | some (.io j _) => e.set i (.io j d)
  | _ => e
def updE : List Bool → List Vl → List D → Env → Env
  | true :: bs, .bo i :: rs, d :: ds, e => updE bs rs ds (putC e i d)
  | _ :: bs, _ :: rs, _ :: ds, e => updE bs rs ds e
  | _, _, _, e => e

theorem putC_length (e : Env) (i : Nat) (d : D) : (putC e i d).length = e.length := by
  unfold putC
  split <;> simp
theorem putC_ne {e : Env} {i j : Nat} {d : D} (h : i ≠ j) : (putC e i d)[j]? = e[j]? := by
  unfold putC
  split
  · exact List.getElem?_set_ne h
  · exact List.getElem?_set_ne h
  · rfl
theorem putC_self (e : Env) (i : Nat) (d : D) : (putC e i d)[i]? = match e[i]? with
    | some (.ow _) => some (.ow d)
    | some (.io j _) => some (.io j d)
    | x => x := by
  unfold putC
  split
  · rename_i h
    rw [List.getElem?_set_self (List.getElem?_eq_some_iff.mp h).1]
  · rename_i h
    rw [List.getElem?_set_self (List.getElem?_eq_some_iff.mp h).1]
  · rename_i h1 h2
    generalize e[i]? = o at h1 h2
    cases o with
    | none => rfl
    | some sl =>
      cases sl with
      | em => rfl
      | im _ => rfl
      | ow _ => exact absurd rfl (h1 _)
      | io _ _ => exact absurd rfl (h2 _ _)
      | bk _ _ => rfl
theorem updE_length : ∀ {sig : List Bool} {rs : List Vl} {ds : List D} {e : Env}, (updE sig rs ds e).length = e.length
  | [], _, _, _ => by simp [updE]
  | _ :: _, [], _, _ => by simp [updE]
  | _ :: _, _ :: _, [], _ => by simp [updE]
  | true :: bs, .bo i :: rs, d :: ds, e => by
    show (updE bs rs ds (putC e i d)).length = _
    rw [updE_length, putC_length]
  | true :: bs, .im _ :: rs, d :: ds, e => by
    show (updE bs rs ds e).length = _
    exact updE_length
  | true :: bs, .fr _ :: rs, d :: ds, e => by
    show (updE bs rs ds e).length = _
    exact updE_length
  | false :: bs, r :: rs, d :: ds, e => by
    show (updE bs rs ds e).length = _
    exact updE_length
theorem updE_ne {i : Nat} : ∀ {sig : List Bool} {rs : List Vl} {ds : List D} {e : Env}, i ∉ ioIx sig rs → (updE sig rs ds e)[i]? = e[i]?
  | [], _, _, _, _ => by simp [updE]
  | _ :: _, [], _, _, _ => by simp [updE]
  | _ :: _, _ :: _, [], _, _ => by simp [updE]
  | true :: bs, .bo k :: rs, d :: ds, e, h => by
    have h' : ¬ (i = k ∨ i ∈ ioIx bs rs) := by simpa [ioIx] using h
    show (updE bs rs ds (putC e k d))[i]? = _
    rw [updE_ne fun z => h' (.inr z), putC_ne fun z => h' (.inl z.symm)]
  | true :: bs, .im _ :: rs, d :: ds, e, h => by
    show (updE bs rs ds e)[i]? = _
    exact updE_ne h
  | true :: bs, .fr _ :: rs, d :: ds, e, h => by
    show (updE bs rs ds e)[i]? = _
    exact updE_ne h
  | false :: bs, .im _ :: rs, d :: ds, e, h => by
    show (updE bs rs ds e)[i]? = _
    exact updE_ne h
  | false :: bs, .fr _ :: rs, d :: ds, e, h => by
    show (updE bs rs ds e)[i]? = _
    exact updE_ne h
  | false :: bs, .bo _ :: rs, d :: ds, e, h => by
    show (updE bs rs ds e)[i]? = _
    exact updE_ne h
theorem ioIx_mem {i : Nat} : ∀ {sig : List Bool} {rs : List Vl}, i ∈ ioIx sig rs → ∃ j : Nat, sig[j]? = some true ∧ rs[j]? = some (Vl.bo i)
  | [], _, h => by simp [ioIx] at h
  | _ :: _, [], h => by simp [ioIx] at h
  | true :: bs, .bo k :: rs, h => by
    have h' : i = k ∨ i ∈ ioIx bs rs := by simpa [ioIx] using h
    rcases h' with rfl | h'
    · exact ⟨0, rfl, rfl⟩
    · obtain ⟨j, h1, h2⟩ := ioIx_mem h'
      exact ⟨j + 1, by simpa using h1, by simpa using h2⟩
  | true :: bs, .im _ :: rs, h => by
    obtain ⟨j, h1, h2⟩ := ioIx_mem (sig := bs) (rs := rs) h
    exact ⟨j + 1, by simpa using h1, by simpa using h2⟩
  | true :: bs, .fr _ :: rs, h => by
    obtain ⟨j, h1, h2⟩ := ioIx_mem (sig := bs) (rs := rs) h
    exact ⟨j + 1, by simpa using h1, by simpa using h2⟩
  | false :: bs, .im _ :: rs, h => by
    obtain ⟨j, h1, h2⟩ := ioIx_mem (sig := bs) (rs := rs) h
    exact ⟨j + 1, by simpa using h1, by simpa using h2⟩
  | false :: bs, .fr _ :: rs, h => by
    obtain ⟨j, h1, h2⟩ := ioIx_mem (sig := bs) (rs := rs) h
    exact ⟨j + 1, by simpa using h1, by simpa using h2⟩
  | false :: bs, .bo _ :: rs, h => by
    obtain ⟨j, h1, h2⟩ := ioIx_mem (sig := bs) (rs := rs) h
    exact ⟨j + 1, by simpa using h1, by simpa using h2⟩
theorem mem_ioIx {i : Nat} : ∀ {sig : List Bool} {rs : List Vl} {j : Nat}, sig[j]? = some true → rs[j]? = some (.bo i) → i ∈ ioIx sig rs
  | [], _, _, h, _ => by simp at h
  | _ :: _, [], _, _, h => by simp at h
  | b :: bs, r :: rs, 0, h1, h2 => by
    simp at h1 h2
    subst h1 h2
    simp [ioIx]
  | b :: bs, r :: rs, j + 1, h1, h2 => by
    have ih := mem_ioIx (i := i) (sig := bs) (rs := rs) (j := j) (by simpa using h1) (by simpa using h2)
    cases b with
    | true =>
      cases r with
      | bo k => simp [ioIx, ih]
      | im _ => exact ih
      | fr _ => exact ih
    | false =>
      cases r with
      | bo k => exact ih
      | im _ => exact ih
      | fr _ => exact ih
/-- which place of the arguments a changed slot has: one alone -/
theorem ioIx_one {i : Nat} : ∀ {sig : List Bool} {rs : List Vl} {j k : Nat}, (ioIx sig rs).Nodup → sig[j]? = some true → rs[j]? = some (.bo i) → sig[k]? = some true → rs[k]? = some (.bo i) → j = k
  | [], _, _, _, _, h, _, _, _ => by simp at h
  | _ :: _, [], _, _, _, _, h, _, _ => by simp at h
  | b :: bs, r :: rs, 0, 0, _, _, _, _, _ => rfl
  | b :: bs, r :: rs, 0, k + 1, nd, h1, h2, h3, h4 => by
    simp at h1 h2
    subst h1 h2
    have m := mem_ioIx (i := i) (sig := bs) (rs := rs) (j := k) (by simpa using h3) (by simpa using h4)
    have nd' : i ∉ ioIx bs rs ∧ (ioIx bs rs).Nodup := by simpa [ioIx] using nd
    exact absurd m nd'.1
  | b :: bs, r :: rs, j + 1, 0, nd, h1, h2, h3, h4 => by
    simp at h3 h4
    subst h3 h4
    have m := mem_ioIx (i := i) (sig := bs) (rs := rs) (j := j) (by simpa using h1) (by simpa using h2)
    have nd' : i ∉ ioIx bs rs ∧ (ioIx bs rs).Nodup := by simpa [ioIx] using nd
    exact absurd m nd'.1
  | b :: bs, r :: rs, j + 1, k + 1, nd, h1, h2, h3, h4 => by
    have nd' : (ioIx bs rs).Nodup := by
      cases b with
      | true =>
        cases r with
        | bo q =>
          have z : q ∉ ioIx bs rs ∧ (ioIx bs rs).Nodup := by simpa [ioIx] using nd
          exact z.2
        | im _ => exact nd
        | fr _ => exact nd
      | false =>
        cases r with
        | bo q => exact nd
        | im _ => exact nd
        | fr _ => exact nd
    rw [ioIx_one nd' (j := j) (k := k) (by simpa using h1) (by simpa using h2) (by simpa using h3) (by simpa using h4)]
theorem updE_at {i : Nat} {d : D} : ∀ {sig : List Bool} {rs : List Vl} {ds : List D} {e : Env} {j : Nat}, (ioIx sig rs).Nodup → sig[j]? = some true → rs[j]? = some (.bo i) → ds[j]? = some d → (updE sig rs ds e)[i]? = (putC e i d)[i]?
  | [], _, _, _, _, _, h, _, _ => by simp at h
  | _ :: _, [], _, _, _, _, _, h, _ => by simp at h
  | _ :: _, _ :: _, [], _, _, _, _, _, h => by simp at h
  | b :: bs, r :: rs, d' :: ds, e, 0, nd, h1, h2, h3 => by
    simp at h1 h2 h3
    subst h1 h2 h3
    have nd' : i ∉ ioIx bs rs ∧ (ioIx bs rs).Nodup := by simpa [ioIx] using nd
    show (updE bs rs ds (putC e i d'))[i]? = _
    rw [updE_ne nd'.1]
  | b :: bs, r :: rs, d' :: ds, e, j + 1, nd, h1, h2, h3 => by
    have m := mem_ioIx (i := i) (sig := bs) (rs := rs) (j := j) (by simpa using h1) (by simpa using h2)
    cases b with
    | true =>
      cases r with
      | bo q =>
        have z : q ∉ ioIx bs rs ∧ (ioIx bs rs).Nodup := by simpa [ioIx] using nd
        show (updE bs rs ds (putC e q d'))[i]? = _
        rw [updE_at z.2 (j := j) (by simpa using h1) (by simpa using h2) (by simpa using h3)]
        have ne : q ≠ i := fun w => z.1 (w ▸ m)
        rw [putC_self, putC_self, putC_ne ne]
      | im _ => exact updE_at (sig := bs) (rs := rs) (ds := ds) (j := j) nd (by simpa using h1) (by simpa using h2) (by simpa using h3)
      | fr _ => exact updE_at (sig := bs) (rs := rs) (ds := ds) (j := j) nd (by simpa using h1) (by simpa using h2) (by simpa using h3)
    | false =>
      cases r with
      | bo q => exact updE_at (sig := bs) (rs := rs) (ds := ds) (j := j) nd (by simpa using h1) (by simpa using h2) (by simpa using h3)
      | im _ => exact updE_at (sig := bs) (rs := rs) (ds := ds) (j := j) nd (by simpa using h1) (by simpa using h2) (by simpa using h3)
      | fr _ => exact updE_at (sig := bs) (rs := rs) (ds := ds) (j := j) nd (by simpa using h1) (by simpa using h2) (by simpa using h3)
theorem ioAll_at {e : Env} : ∀ {sig : List Bool} {rs : List Vl} {j : Nat}, ioAll e sig rs = true → sig[j]? = some true → ∃ i, rs[j]? = some (.bo i) ∧ mutAt e i = true
  | [], [], _, _, h => by simp at h
  | [], _ :: _, _, h, _ => by simp [ioAll] at h
  | b :: bs, [], _, h, _ => by cases b <;> simp [ioAll] at h
  | b :: bs, r :: rs, 0, h, h1 => by
    simp at h1
    subst h1
    cases r with
    | bo i =>
      have h : mutAt e i = true ∧ ioAll e bs rs = true := by simpa [ioAll] using h
      exact ⟨i, rfl, h.1⟩
    | im _ => simp [ioAll] at h
    | fr _ => simp [ioAll] at h
  | b :: bs, r :: rs, j + 1, h, h1 => by
    have h2 : ioAll e bs rs = true := by
      cases b with
      | true =>
        cases r with
        | bo i =>
          have h : mutAt e i = true ∧ ioAll e bs rs = true := by simpa [ioAll] using h
          exact h.2
        | im _ => simp [ioAll] at h
        | fr _ => simp [ioAll] at h
      | false => simpa [ioAll] using h
    obtain ⟨i, h3, h4⟩ := ioAll_at h2 (j := j) (by simpa using h1)
    exact ⟨i, by simpa using h3, h4⟩
theorem ioAll_len {e : Env} : ∀ {sig : List Bool} {rs : List Vl}, ioAll e sig rs = true → sig.length = rs.length
  | [], [], _ => rfl
  | [], _ :: _, h => by simp [ioAll] at h
  | b :: bs, [], h => by cases b <;> simp [ioAll] at h
  | b :: bs, r :: rs, h => by
    have h2 : ioAll e bs rs = true := by
      cases b with
      | true =>
        cases r with
        | bo i =>
          have h : mutAt e i = true ∧ ioAll e bs rs = true := by simpa [ioAll] using h
          exact h.2
        | im _ => simp [ioAll] at h
        | fr _ => simp [ioAll] at h
      | false => simpa [ioAll] using h
    simp [ioAll_len h2]
theorem mem_brIx {e : Env} {i : Nat} : ∀ {sig : List Bool} {rs : List Vl} {j : Nat}, sig[j]? = some false → rs[j]? = some (.bo i) → mutAt e i = true → i ∈ brIx e sig rs
  | [], _, _, h, _, _ => by simp at h
  | _ :: _, [], _, _, h, _ => by simp at h
  | b :: bs, r :: rs, 0, h1, h2, h3 => by
    simp at h1 h2
    subst h1 h2
    simp [brIx, h3]
  | b :: bs, r :: rs, j + 1, h1, h2, h3 => by
    have ih := mem_brIx (e := e) (i := i) (sig := bs) (rs := rs) (j := j) (by simpa using h1) (by simpa using h2) h3
    cases b with
    | false =>
      cases r with
      | bo k =>
        show i ∈ (if mutAt e k = true then k :: brIx e bs rs else brIx e bs rs)
        split
        · exact List.mem_cons_of_mem _ ih
        · exact ih
      | im _ => exact ih
      | fr _ => exact ih
    | true =>
      cases r with
      | bo k => exact ih
      | im _ => exact ih
      | fr _ => exact ih
theorem cnts_get {e : Env} : ∀ {rs : List Vl} {ds : List D} {j : Nat} {r : Vl}, cnts e rs = some ds → rs[j]? = some r → ∃ d, ds[j]? = some d ∧ cnt e r = some d
  | [], _, _, _, _, h => by simp at h
  | r :: rs, ds, j, r', h, h1 => by
    unfold cnts at h
    split at h
    · rename_i d ds' e1 e2
      cases h
      cases j with
      | zero =>
        simp at h1
        subst h1
        exact ⟨d, rfl, e1⟩
      | succ j =>
        obtain ⟨d', h2, h3⟩ := cnts_get e2 (j := j) (by simpa using h1)
        exact ⟨d', by simpa using h2, h3⟩
    · cases h
theorem cnts_len {e : Env} : ∀ {rs : List Vl} {ds : List D}, cnts e rs = some ds → ds.length = rs.length
  | [], _, h => by
    cases h
    rfl
  | r :: rs, ds, h => by
    unfold cnts at h
    split at h
    · rename_i d ds' e1 e2
      cases h
      simp [cnts_len e2]
    · cases h
theorem paired_get {α β : Type} {R : α → β → Prop} : ∀ {as : List α} {bs : List β} {j : Nat} {a : α}, Paired R as bs → as[j]? = some a → ∃ b, bs[j]? = some b ∧ R a b
  | _, _, _, _, .nil, h => by simp at h
  | _, _, 0, _, .cons r _, h => by
    simp at h
    subst h
    exact ⟨_, rfl, r⟩
  | _, _, j + 1, a, .cons _ t, h => by
    obtain ⟨b, h1, h2⟩ := paired_get (j := j) (a := a) t (by simpa using h)
    exact ⟨b, by simpa using h1, h2⟩
theorem paired_getR {α β : Type} {R : α → β → Prop} : ∀ {as : List α} {bs : List β} {j : Nat} {b : β}, Paired R as bs → bs[j]? = some b → ∃ a, as[j]? = some a ∧ R a b
  | _, _, _, _, .nil, h => by simp at h
  | _, _, 0, _, .cons r _, h => by
    simp at h
    subst h
    exact ⟨_, rfl, r⟩
  | _, _, j + 1, a, .cons _ t, h => by
    obtain ⟨b, h1, h2⟩ := paired_getR (j := j) (b := a) t (by simpa using h)
    exact ⟨b, by simpa using h1, h2⟩
end PD
namespace PD
variable [PD.TabL]
open PySem PySem.Spec PyProof.Rows L2

section
variable {K : PySem.W.Frag} {A : Anc} {B H : Hp} {σ τ : L2.St} {env pe : Env}
/-- the addresses of containers that are lent to a def for reading -/
def Lent (env : Env) (sig : List Bool) (rs : List Vl) (vs : List V) (a : Addr) : Prop := ∃ (j i : Nat), sig[j]? = some false ∧ rs[j]? = some (Vl.bo i) ∧ mutAt env i = true ∧ vs[j]? = some (V.ref a)
/-- the addresses of containers that a def may change -/
def ioOf (sig : List Bool) (vs : List V) (j : Nat) : Option Addr := if sig[j]? = some true then match vs[j]? with
    | some (.ref p) => some p
    | _ => none
  else none
open Classical in
theorem call_ok {F : Fs} {rs : List Vl} {vs : List V} {ds ds' : List D} {r : Vl} (S : SR K A B H (σ ++ τ) (env ++ pe)) (hl : σ.length = env.length) (hr : Paired (Hv K B σ) rs vs) (hc : cnts env rs = some ds)
    (hio : ioAll env F.sig rs = true) (hnd : (ioIx F.sig rs).Nodup) (hdj : ∀ i ∈ ioIx F.sig rs, i ∉ brIx env F.sig rs) (hf : F.sem ds = some (r, ds'))
    (hnm : brIx env F.sig rs = [] ∨ (r.nm = true ∧ ∀ (j : Nat) (d : D), F.sig[j]? = some true → ds'[j]? = some d → d.nmC = true)) (Q : VK)
    (q : ∀ B' H' v, Same B B' → VR K A B' H' σ τ (updE F.sig rs ds' env) pe r v → Q v H') (E : XK) : spF K F vs H Q E := by
  have lrv : rs.length = vs.length := Paired.length hr
  have lsr : F.sig.length = rs.length := ioAll_len hio
  have lds : ds.length = rs.length := cnts_len hc
  -- a slot that holds something to be changed
  have held : ∀ (i : Nat) (v : V), mutAt env i = true → σ[i]? = some (some v) → ∃ p sl d, v = .ref p ∧ env[i]? = some sl ∧ sl.mut = true ∧ cnt env (.bo i) = some d ∧ B p = none ∧ (A.H0 p = none ∨ A.isIo p) ∧ Cont K B d (H p) := by
    intro i v hm hv
    unfold mutAt at hm
    split at hm
    · rename_i sl he
      cases S.at hl he hv with
      | em => cases hm
      | im _ => cases hm
      | bk _ _ _ _ => cases hm
      | @ow d p b h0 c => exact ⟨p, _, d, rfl, he, rfl, by simp only [cnt, he], b, .inl h0, c⟩
      | @io d p j h c => exact ⟨p, _, d, rfl, he, rfl, by simp only [cnt, he], (S.iob p ⟨_, h⟩).1, .inr ⟨_, h⟩, c⟩
    · cases hm
  have lentC : ∀ a, Lent env F.sig rs vs a → ∃ i sl d, i ∈ brIx env F.sig rs ∧ σ[i]? = some (some (.ref a)) ∧ env[i]? = some sl ∧ sl.mut = true ∧ cnt env (.bo i) = some d ∧ B a = none ∧ (A.H0 a = none ∨ A.isIo a) ∧ Cont K B d (H a) := by
    rintro a ⟨j, i, h1, h2, h3, h4⟩
    obtain ⟨v', h5, h6⟩ := paired_get hr h2
    rw [h4] at h5
    cases h5
    have h6 : σ[i]? = some (some (V.ref a)) := h6
    obtain ⟨p, sl, d, e1, e2, e3, e4, e5, e6, e7⟩ := held i _ h3 h6
    cases e1
    exact ⟨i, sl, d, mem_brIx h1 h2 h3, h6, e2, e3, e4, e5, e6, e7⟩
  have ioC : ∀ j p, ioOf F.sig vs j = some p → ∃ i sl d, F.sig[j]? = some true ∧ rs[j]? = some (.bo i) ∧ vs[j]? = some (.ref p) ∧ i ∈ ioIx F.sig rs ∧ σ[i]? = some (some (.ref p)) ∧ env[i]? = some sl ∧ sl.mut = true ∧ ds[j]? = some d ∧ B p = none ∧ (A.H0 p = none ∨ A.isIo p) ∧ Cont K B d (H p) := by
    intro j p h
    unfold ioOf at h
    split at h
    · rename_i hs
      obtain ⟨i, h2, h3⟩ := ioAll_at hio hs
      obtain ⟨v', h5, h6⟩ := paired_get hr h2
      rw [h5] at h
      have h6 : σ[i]? = some (some v') := h6
      obtain ⟨p', sl, d, e1, e2, e3, e4, e5, e6, e7⟩ := held i _ h3 h6
      subst e1
      cases h
      obtain ⟨d', g1, g2⟩ := cnts_get hc h2
      rw [e4] at g2
      cases g2
      exact ⟨i, sl, d, hs, h2, h5, mem_ioIx hs h2, h6, e2, e3, g1, e5, e6, e7⟩
    · cases h
  have apart : ∀ (i i' : Nat) (p : Addr) (sl sl' : Sl), env[i]? = some sl → env[i']? = some sl' → sl.mut = true → sl'.mut = true → σ[i]? = some (some (.ref p)) → σ[i']? = some (some (.ref p)) → i = i' := fun i i' p sl sl' h1 h2 h3 h4 h5 h6 => by
    by_cases z : i = i'
    · exact z
    · refine (S.inj i i' p sl sl' z ?_ ?_ h3 h4 ?_ ?_).elim
      · rw [List.getElem?_append_left (List.getElem?_eq_some_iff.mp h1).1]; exact h1
      · rw [List.getElem?_append_left (List.getElem?_eq_some_iff.mp h2).1]; exact h2
      · rw [List.getElem?_append_left (List.getElem?_eq_some_iff.mp h5).1]; exact h5
      · rw [List.getElem?_append_left (List.getElem?_eq_some_iff.mp h6).1]; exact h6
  have ioNotLent : ∀ j p, ioOf F.sig vs j = some p → ¬ Lent env F.sig rs vs p := by
    intro j p h h'
    obtain ⟨i, sl, d, _, _, _, m, e1, e2, e3, _⟩ := ioC j p h
    obtain ⟨i', sl', d', m', f1, f2, f3, _⟩ := lentC p h'
    have := apart i i' p sl sl' e2 f2 e3 f3 e1 f1
    subst this
    exact hdj i m m'
  -- the callee's beginning
  let Bc : Hp := fun a => if Lent env F.sig rs vs a then H a else B a
  have BcL : ∀ a, Lent env F.sig rs vs a → Bc a = H a := fun a h => if_pos h
  have BcN : ∀ a, ¬ Lent env F.sig rs vs a → Bc a = B a := fun a h => if_neg h
  have sBc : Same B Bc := fun a o e => by
    by_cases h : Lent env F.sig rs vs a
    · obtain ⟨_, _, _, _, _, _, _, _, b, _⟩ := lentC a h
      rw [b] at e
      cases e
    · rw [BcN a h]
      exact e
  have sBH : Same Bc H := fun a o e => by
    by_cases h : Lent env F.sig rs vs a
    · rw [BcL a h] at e
      exact e
    · rw [BcN a h] at e
      exact S.same a o e
  have ioN : ∀ j p, ioOf F.sig vs j = some p → p ∉ tbA := fun j p h => by
    obtain ⟨_, _, _, _, _, _, _, _, _, _, _, _, _, c⟩ := ioC j p h
    exact S.tC c
  have leN : ∀ a, Lent env F.sig rs vs a → a ∉ tbA := fun a h => by
    obtain ⟨_, _, _, _, _, _, _, _, _, _, c⟩ := lentC a h
    exact S.tC c
  let Ac : Anc := ⟨noT H, Bc, ioOf F.sig vs, fun _ => none⟩
  have S0 : SR K Ac Bc H (vs.map some) (mkE 0 F.sig ds) := by
    refine ⟨by rw [List.length_map, mkE_length (by omega)]; omega, sBH, fun j sl ov e1 e2 => ?_, fun j j' p sl sl' ne e1 e2 m1 m2 e3 e4 => ?_, fun a o e _ => ⟨noT_some e, .inl rfl⟩, fun a ⟨j, h⟩ => ?_, fun a ⟨j, h⟩ => ?_, fun p hp => ⟨(S.tab p hp).1, by rw [BcN p.1 fun z => leN _ z (List.mem_map.mpr ⟨p, hp, rfl⟩)]; exact (S.tab p hp).2.1, noT_tab hp⟩⟩
    · obtain ⟨b, d, h1, h2, rfl⟩ := mkE_get e1
      rw [List.getElem?_map] at e2
      cases hv : vs[j]? with
      | none =>
        rw [hv] at e2
        cases e2
      | some v =>
        rw [hv] at e2
        cases e2
        obtain ⟨r', h3, h4⟩ := paired_getR hr hv
        obtain ⟨d', h5, h6⟩ := cnts_get hc h3
        rw [h2] at h5
        cases h5
        cases b with
        | true =>
          rw [if_pos rfl]
          obtain ⟨i, g1, g2⟩ := ioAll_at hio h1
          rw [h3] at g1
          cases g1
          have h4 : σ[i]? = some (some v) := h4
          obtain ⟨p, sl, d2, f1, f2, f3, f4, f5, f6, f7⟩ := held i v g2 h4
          subst f1
          rw [h6] at f4
          cases f4
          rw [Nat.zero_add]
          refine .io ?_ (f7.mono sBc)
          show ioOf F.sig vs j = some p
          unfold ioOf
          rw [if_pos h1, hv]
        | false =>
          rw [if_neg Bool.false_ne_true]
          cases r' with
          | im d2 =>
            cases h6
            have h4 : Rp K B d v := h4
            exact .im (h4.mono sBc)
          | fr d2 => exact h4.elim
          | bo i =>
            have h4 : σ[i]? = some (some v) := h4
            by_cases hm : mutAt env i = true
            · obtain ⟨p, sl, d2, f1, f2, f3, f4, f5, f6, f7⟩ := held i v hm h4
              subst f1
              rw [h6] at f4
              cases f4
              refine .im (f7.frozen sBc ?_)
              exact BcL p ⟨j, i, h1, h3, hm, hv⟩
            · have h6' := h6
              unfold cnt at h6'
              dsimp only at h6'
              split at h6'
              · rename_i d2 he
                cases h6'
                cases S.at hl he h4 with
                | im rr => exact .im (rr.mono sBc)
              · rename_i d2 he
                exact absurd (by unfold mutAt; rw [he]; rfl) hm
              · rename_i d2 he
                exact absurd (by unfold mutAt; rw [he]; rfl) hm
              · cases h6'
    · obtain ⟨b, d, h1, h2, rfl⟩ := mkE_get e1
      obtain ⟨b', d', h1', h2', rfl⟩ := mkE_get e2
      cases b with
      | false => cases m1
      | true =>
        cases b' with
        | false => cases m2
        | true =>
          have k1 : ioOf F.sig vs j = some p := by
            unfold ioOf
            rw [List.getElem?_map] at e3
            cases hv : vs[j]? with
            | none => rw [hv] at e3; cases e3
            | some v =>
              rw [hv] at e3
              cases e3
              rw [if_pos h1]
          have k2 : ioOf F.sig vs j' = some p := by
            unfold ioOf
            rw [List.getElem?_map] at e4
            cases hv : vs[j']? with
            | none => rw [hv] at e4; cases e4
            | some v =>
              rw [hv] at e4
              cases e4
              rw [if_pos h1']
          obtain ⟨i, sl, d3, x1, x2, x3, m, y1, y2, y3, _⟩ := ioC j p k1
          obtain ⟨i', sl', d4, x1', x2', x3', m', z1, z2, z3, _⟩ := ioC j' p k2
          have := apart i i' p sl sl' y2 z2 y3 z3 y1 z1
          subst this
          exact ne (ioIx_one hnd x1 x2 x1' x2')
    · obtain ⟨i, sl, d, _, _, _, m, e1, e2, e3, _, b, _, c⟩ := ioC j a h
      obtain ⟨o, ho⟩ := c.some
      rw [ho] at c
      exact ⟨by rw [BcN a (ioNotLent j a h)]; exact b, o, ho, c.nt⟩
    · obtain ⟨i, sl, d, _, _, _, m, e1, e2, e3, _, b, _, c⟩ := ioC j a h
      show ∃ o, noT H a = some o
      rw [noT_of (ioN j a h)]
      exact c.some
  refine ⟨Ac, Bc, ds, ds', r, rfl, rfl, S0, by omega, hf, fun B1 H1 v s1 hld R => ?_⟩
  -- what stands behind it, for the caller
  have S1 : SR K Ac B1 H1 (vs.map some) (mkE 0 F.sig ds') := by
    cases r with
    | im d => exact R.1
    | fr d => exact SR.front (σ2 := [some v]) (env2 := [.ow d]) R (by rw [List.length_map, mkE_length (by omega)]; omega)
    | bo i => exact R.elim
  let B2 : Hp := fun a => if Lent env F.sig rs vs a then none else B1 a
  have B2L : ∀ a, Lent env F.sig rs vs a → B2 a = none := fun a h => if_pos h
  have B2N : ∀ a, ¬ Lent env F.sig rs vs a → B2 a = B1 a := fun a h => if_neg h
  have sB2 : Same B B2 := fun a o e => by
    by_cases h : Lent env F.sig rs vs a
    · obtain ⟨_, _, _, _, _, _, _, _, b, _⟩ := lentC a h
      rw [b] at e
      cases e
    · rw [B2N a h]
      exact s1 a o (sBc a o e)
  have sB21 : Same B2 B1 := fun a o e => by
    by_cases h : Lent env F.sig rs vs a
    · rw [B2L a h] at e
      cases e
    · rw [B2N a h] at e
      exact e
  -- data without lists leans on nothing that was lent
  have tT : ∀ a o, TuO o → B1 a = some o → B2 a = some o := fun a x tu h => by
    by_cases hL : Lent env F.sig rs vs a
    · obtain ⟨i, sl, d, _, _, _, _, _, _, _, c⟩ := lentC a hL
      have hb : B1 a = H a := by
        obtain ⟨o, ho⟩ := c.some
        rw [ho]
        exact s1 a o (by rw [BcL a hL]; exact ho)
      rw [hb] at h
      rw [h] at c
      exact absurd tu c.nu
    · rw [B2N a hL]
      exact h
  have noL : brIx env F.sig rs = [] → ∀ a, ¬ Lent env F.sig rs vs a := fun e a h => by
    obtain ⟨i, _, _, m, _⟩ := lentC a h
    rw [e] at m
    cases m
  have eqB : brIx env F.sig rs = [] → B2 = B1 := fun e => funext fun a => B2N a (noL e a)
  have contIo : ∀ (j : Nat) (d : D) (o : Option HO), F.sig[j]? = some true → ds'[j]? = some d → Cont K B1 d o → Cont K B2 d o := fun j d o h1 h2 c => by
    rcases hnm with e | ⟨_, hn⟩
    · rw [eqB e]
      exact c
    · exact c.thaw tT (hn j d h1 h2)
  -- a container of the caller's that the def hasn't in hand
  have other : ∀ (p : Addr) (d : D), Cont K B d (H p) → (¬ ∃ j, ioOf F.sig vs j = some p) → H1 p = H p ∧ B1 p = Bc p := fun p d c n => by
    obtain ⟨o, ho⟩ := c.some
    obtain ⟨e1, e2⟩ := S1.anc p o ((noT_of (S.tC c)).trans ho) n
    rw [ho] at c
    exact ⟨by rw [e1, ho], e2.resolve_right fun ⟨ts, z⟩ => c.nt ts z⟩
  have isIoC : ∀ p, (∃ j, ioOf F.sig vs j = some p) → ∃ (i j : Nat) (sl : Sl) (d' : D), i ∈ ioIx F.sig rs ∧ F.sig[j]? = some true ∧ rs[j]? = some (.bo i) ∧ σ[i]? = some (some (.ref p)) ∧ env[i]? = some sl ∧ sl.mut = true ∧ ds'[j]? = some d' ∧ Cont K B2 d' (H1 p) ∧ B2 p = none := by
    rintro p ⟨j, h⟩
    obtain ⟨i, sl, d, x1, x2, x3, m, y1, y2, y3, _, b, _, c⟩ := ioC j p h
    have hj : j < F.sig.length := (List.getElem?_eq_some_iff.mp x1).1
    have hd : ds'[j]? = some (ds'[j]'(by omega)) := List.getElem?_eq_getElem (by omega)
    have e1 := mkE_at (k := 0) x1 hd
    have e2 : (vs.map some)[j]? = some (some (V.ref p)) := by rw [List.getElem?_map, x3]; rfl
    have sl1 := S1.slot j _ _ e1 e2
    rw [if_pos rfl] at sl1
    cases sl1 with
    | io h' c' =>
      exact ⟨i, j, sl, _, m, x1, x2, y1, y2, y3, hd, contIo j _ _ x1 hd c', by rw [B2N p (ioNotLent j p h)]; exact (S1.iob p ⟨j, h⟩).1⟩
  have S2 : SR K A B2 H1 (σ ++ τ) (updE F.sig rs ds' env ++ pe) := by
    have lu : (updE F.sig rs ds' env).length = env.length := updE_length
    refine ⟨?_, fun a o e => S1.same a o (sB21 a o e), fun i sl ov e1 e2 => ?_, fun i i' p sl sl' ne e1 e2 m1 m2 e3 e4 => ?_, fun a o e n => ?_, fun a n => ?_, S.ioh, fun p hp => ⟨(S1.tab p hp).1, by rw [B2N p.1 fun z => leN _ z (List.mem_map.mpr ⟨p, hp, rfl⟩)]; exact (S1.tab p hp).2.1, (S.tab p hp).2.2⟩⟩
    · have := S.len
      simp only [List.length_append] at this ⊢
      omega
    · -- what the caller's slot i had
      have old : ∃ sl0, (env ++ pe)[i]? = some sl0 ∧ (sl0 = sl ∨ (i ∈ ioIx F.sig rs ∧ i < env.length)) := by
        by_cases hi : i < env.length
        · by_cases hm : i ∈ ioIx F.sig rs
          · exact ⟨env[i], by rw [List.getElem?_append_left hi]; exact List.getElem?_eq_getElem hi, .inr ⟨hm, hi⟩⟩
          · rw [List.getElem?_append_left (by omega), updE_ne hm] at e1
            exact ⟨sl, by rw [List.getElem?_append_left hi]; exact e1, .inl rfl⟩
        · rw [List.getElem?_append_right (by omega), lu] at e1
          exact ⟨sl, by rw [List.getElem?_append_right (by omega)]; exact e1, .inl rfl⟩
      obtain ⟨sl0, h0, h1⟩ := old
      rcases h1 with rfl | ⟨hm, hi⟩
      · -- untouched
        by_cases hio2 : i ∈ ioIx F.sig rs ∧ i < env.length
        · obtain ⟨hm, hi⟩ := hio2
          obtain ⟨j, x1, x2⟩ := ioIx_mem hm
          obtain ⟨i2, y1, y2⟩ := ioAll_at hio x1
          rw [x2] at y1
          cases y1
          rw [List.getElem?_append_left (by omega)] at e2
          obtain ⟨v', z1, z2⟩ := paired_get hr x2
          have z2 : σ[i]? = some (some v') := z2
          rw [e2] at z2
          cases z2
          obtain ⟨p, sl2, d2, rfl, f2, f3, _⟩ := held i v' y2 e2
          have kj : ioOf F.sig vs j = some p := by
            unfold ioOf
            rw [if_pos x1, z1]
          obtain ⟨i3, j3, sl3, d3, w1, w2, w3, w4, w5, w6, w7, w8, w9⟩ := isIoC p ⟨j, kj⟩
          have := apart i i3 p sl2 sl3 f2 w5 f3 w6 e2 w4
          subst this
          have ej := ioIx_one hnd x1 x2 w2 w3
          subst ej
          rw [List.getElem?_append_left (by omega), updE_at hnd x1 x2 w7, putC_self] at e1
          rw [f2] at e1
          cases sl2 with
          | em => cases f3
          | im _ => cases f3
          | bk _ _ => cases f3
          | ow d4 =>
            cases e1
            cases S.at hl f2 e2 with
            | ow b0 h00 c0 => exact .ow w9 h00 w8
          | io k d4 =>
            cases e1
            cases S.at hl f2 e2 with
            | io h00 c0 => exact .io h00 w8
        · have s := S.slot i _ ov h0 e2
          cases s with
          | em => exact .em
          | im rr => exact .im (rr.mono sB2)
          | bk h r1 r2 r3 => exact .bk h (r1.mono sB2) (r2.mono sB2) (r3.mono sB2)
          | @ow d p b h00 c =>
            have n : ¬ ∃ j, ioOf F.sig vs j = some p := fun z => by
              obtain ⟨i3, j3, sl3, d3, w1, w2, w3, w4, w5, w6, w7, w8, w9⟩ := isIoC p z
              have h5 : (env ++ pe)[i3]? = some sl3 := by
                rw [List.getElem?_append_left (List.getElem?_eq_some_iff.mp w5).1]; exact w5
              have h6 : (σ ++ τ)[i3]? = some (some (V.ref p)) := by
                rw [List.getElem?_append_left (List.getElem?_eq_some_iff.mp w4).1]; exact w4
              by_cases q2 : i = i3
              · subst q2
                exact hio2 ⟨w1, (List.getElem?_eq_some_iff.mp w5).1⟩
              · exact S.inj i i3 p _ sl3 q2 h0 h5 rfl w6 e2 h6
            obtain ⟨g1, g2⟩ := other p d c n
            refine .ow ?_ h00 (by rw [g1]; exact c.mono sB2)
            by_cases hL : Lent env F.sig rs vs p
            · exact B2L p hL
            · rw [B2N p hL, g2, BcN p hL]
              exact b
          | @io d p k h00 c =>
            have n : ¬ ∃ j, ioOf F.sig vs j = some p := fun z => by
              obtain ⟨i3, j3, sl3, d3, w1, w2, w3, w4, w5, w6, w7, w8, w9⟩ := isIoC p z
              have h5 : (env ++ pe)[i3]? = some sl3 := by
                rw [List.getElem?_append_left (List.getElem?_eq_some_iff.mp w5).1]; exact w5
              have h6 : (σ ++ τ)[i3]? = some (some (V.ref p)) := by
                rw [List.getElem?_append_left (List.getElem?_eq_some_iff.mp w4).1]; exact w4
              by_cases q2 : i = i3
              · subst q2
                exact hio2 ⟨w1, (List.getElem?_eq_some_iff.mp w5).1⟩
              · exact S.inj i i3 p _ sl3 q2 h0 h5 rfl w6 e2 h6
            obtain ⟨g1, g2⟩ := other p d c n
            exact .io h00 (by rw [g1]; exact c.mono sB2)
      · obtain ⟨j, x1, x2⟩ := ioIx_mem hm
        obtain ⟨i2, y1, y2⟩ := ioAll_at hio x1
        rw [x2] at y1
        cases y1
        rw [List.getElem?_append_left (by omega)] at e2
        obtain ⟨v', z1, z2⟩ := paired_get hr x2
        have z2 : σ[i]? = some (some v') := z2
        rw [e2] at z2
        cases z2
        obtain ⟨p, sl2, d2, rfl, f2, f3, _⟩ := held i v' y2 e2
        have kj : ioOf F.sig vs j = some p := by
          unfold ioOf
          rw [if_pos x1, z1]
        obtain ⟨i3, j3, sl3, d3, w1, w2, w3, w4, w5, w6, w7, w8, w9⟩ := isIoC p ⟨j, kj⟩
        have := apart i i3 p sl2 sl3 f2 w5 f3 w6 e2 w4
        subst this
        have ej := ioIx_one hnd x1 x2 w2 w3
        subst ej
        rw [List.getElem?_append_left (by omega), updE_at hnd x1 x2 w7, putC_self] at e1
        rw [f2] at e1
        cases sl2 with
        | em => cases f3
        | im _ => cases f3
        | bk _ _ => cases f3
        | ow d4 =>
          cases e1
          cases S.at hl f2 e2 with
          | ow b0 h00 c0 => exact .ow w9 h00 w8
        | io k d4 =>
          cases e1
          cases S.at hl f2 e2 with
          | io h00 c0 => exact .io h00 w8
    · -- no two hold one
      have old : ∀ (i : Nat) (sl : Sl), (updE F.sig rs ds' env ++ pe)[i]? = some sl → sl.mut = true → ∃ sl0 : Sl, (env ++ pe)[i]? = some sl0 ∧ sl0.mut = true := fun i sl e m => by
        by_cases hi : i < env.length
        · rw [List.getElem?_append_left (by omega)] at e
          by_cases hm : i ∈ ioIx F.sig rs
          · obtain ⟨j, x1, x2⟩ := ioIx_mem hm
            obtain ⟨i2, y1, y2⟩ := ioAll_at hio x1
            rw [x2] at y1
            cases y1
            unfold mutAt at y2
            split at y2
            · rename_i sl0 he
              exact ⟨sl0, by rw [List.getElem?_append_left hi]; exact he, y2⟩
            · cases y2
          · rw [updE_ne hm] at e
            exact ⟨sl, by rw [List.getElem?_append_left hi]; exact e, m⟩
        · rw [List.getElem?_append_right (by omega), lu] at e
          exact ⟨sl, by rw [List.getElem?_append_right (by omega)]; exact e, m⟩
      obtain ⟨s0, a1, a2⟩ := old i sl e1 m1
      obtain ⟨s0', b1, b2⟩ := old i' sl' e2 m2
      exact S.inj i i' p s0 s0' ne a1 b1 a2 b2 e3 e4
    · obtain ⟨h1, h2⟩ := S.anc a o e n
      have ni : ¬ ∃ j, ioOf F.sig vs j = some a := fun ⟨j, z⟩ => by
        obtain ⟨_, _, _, _, _, _, _, _, _, _, _, _, h3, _⟩ := ioC j a z
        rcases h3 with h3 | h3
        · rw [h3] at e
          cases e
        · exact n h3
      have nL : ¬ Lent env F.sig rs vs a := fun z => by
        obtain ⟨_, _, _, _, _, _, _, _, _, h3, _⟩ := lentC a z
        rcases h3 with h3 | h3
        · rw [h3] at e
          cases e
        · exact n h3
      obtain ⟨g1, g2⟩ := S1.anc a o ((noT_of (S.tH e)).trans h1) ni
      rcases g2 with g2 | g2
      · refine ⟨g1, ?_⟩
        rw [B2N a nL, g2]
        show Bc a = _ ∨ _
        rw [BcN a nL]
        exact h2
      · exact ⟨g1, .inr g2⟩
    · obtain ⟨b0, o, ho, nt⟩ := S.iob a n
      obtain ⟨oh, eh⟩ := S.ioh a n
      have nT := S.tH eh
      by_cases hL : Lent env F.sig rs vs a
      · have ni : ¬ ∃ j, ioOf F.sig vs j = some a := fun ⟨j, z⟩ => ioNotLent j a z hL
        obtain ⟨g1, g2⟩ := S1.anc a o ((noT_of nT).trans ho) ni
        exact ⟨B2L a hL, o, g1, nt⟩
      · rw [B2N a hL]
        by_cases hI : ∃ j, ioOf F.sig vs j = some a
        · exact S1.iob a hI
        · obtain ⟨g1, g2⟩ := S1.anc a o ((noT_of nT).trans ho) hI
          refine ⟨?_, o, g1, nt⟩
          rw [g2.resolve_right fun ⟨ts, z⟩ => nt ts z]
          show Bc a = none
          rw [BcN a hL]
          exact b0
  cases r with
  | bo i => exact R.elim
  | im d =>
    refine q B2 H1 v sB2 ⟨S2, ?_⟩
    rcases hnm with e | ⟨hn, _⟩
    · rw [eqB e]
      exact R.2
    · exact R.2.thaw tT hn
  | fr d =>
    have R : SR K Ac B1 H1 (vs.map some ++ [some v]) (mkE 0 F.sig ds' ++ [.ow d]) := R
    have lm : (mkE 0 F.sig ds').length = vs.length := by rw [mkE_length (by omega)]; omega
    have e1 : (mkE 0 F.sig ds' ++ [Sl.ow d])[vs.length]? = some (.ow d) := by
      rw [← lm]
      simp
    have e2 : (vs.map some ++ [some v])[vs.length]? = some (some v) := by
      rw [List.getElem?_append_right (by simp)]
      simp
    cases R.slot _ _ _ e1 e2 with
    | @ow _ p b h0 c =>
      have hp : H p = none := (noT_of (R.tC c)).symm.trans h0
      obtain ⟨bp, a0, nio⟩ := S.new hp
      have nL : ¬ Lent env F.sig rs vs p := fun z => by
        obtain ⟨_, _, _, _, _, _, _, _, _, _, c2⟩ := lentC p z
        rw [hp] at c2
        cases c2
      have c2 : Cont K B2 d (H1 p) := by
        rcases hnm with e | ⟨hn, _⟩
        · rw [eqB e]
          exact c
        · exact c.thaw tT hn
      refine q B2 H1 (.ref p) sB2 ?_
      show SR K A B2 H1 (σ ++ τ ++ [some (.ref p)]) (updE F.sig rs ds' env ++ pe ++ [.ow d])
      have ln : (σ ++ τ).length = (updE F.sig rs ds' env ++ pe).length := S2.len
      -- no slot of the caller's holds p
      have no : ∀ (i : Nat) (sl : Sl), (updE F.sig rs ds' env ++ pe)[i]? = some sl → sl.mut = true → (σ ++ τ)[i]? ≠ some (some (.ref p)) := fun i sl e m z => by
        by_cases hi : i < env.length
        · have lu : (updE F.sig rs ds' env).length = env.length := updE_length
          rw [List.getElem?_append_left (by omega)] at e z
          by_cases hm : i ∈ ioIx F.sig rs
          · obtain ⟨j, x1, x2⟩ := ioIx_mem hm
            obtain ⟨i2, y1, y2⟩ := ioAll_at hio x1
            rw [x2] at y1
            cases y1
            obtain ⟨p', sl2, d2, f1, f2, f3, f4, f5, f6, f7⟩ := held i _ y2 z
            cases f1
            rw [hp] at f7
            cases f7
          · rw [updE_ne hm] at e
            obtain ⟨p', d2, o, f1, _, f2, _⟩ := (S.at hl e z).held m
            cases f1
            rw [hp] at f2
            cases f2
        · have lu : (updE F.sig rs ds' env).length = env.length := updE_length
          rw [List.getElem?_append_right (by omega), lu] at e
          have e' : (env ++ pe)[i]? = some sl := by rw [List.getElem?_append_right (by omega)]; exact e
          obtain ⟨p', d2, o, f1, _, f2, _⟩ := (S.slot i sl _ e' z).held m
          cases f1
          rw [hp] at f2
          cases f2
      refine ⟨by simp only [List.length_append, List.length_cons, List.length_nil] at ln ⊢; omega, S2.same, fun i sl ov g1 g2 => ?_, fun i i' p' sl sl' ne g1 g2 m1 m2 g3 g4 => ?_, S2.anc, S2.iob, S2.ioh, S2.tab⟩
      · rcases getE_snoc g1 with ⟨hi, g1⟩ | ⟨hi, rfl⟩
        · rw [List.getElem?_append_left (by rw [ln]; exact hi)] at g2
          exact S2.slot i sl ov g1 g2
        · rw [hi, ← ln] at g2
          have : ov = some (.ref p) := by simpa using g2.symm
          subst this
          exact .ow (by rw [B2N p nL]; exact b) a0 c2
      · rcases getE_snoc g1 with ⟨hi, g1⟩ | ⟨hi, rfl⟩
        · rw [List.getElem?_append_left (by rw [ln]; exact hi)] at g3
          rcases getE_snoc g2 with ⟨hi', g2⟩ | ⟨hi', rfl⟩
          · rw [List.getElem?_append_left (by rw [ln]; exact hi')] at g4
            exact S2.inj i i' p' sl sl' ne g1 g2 m1 m2 g3 g4
          · rw [hi', ← ln] at g4
            have : V.ref p = V.ref p' := by simpa using g4
            cases this
            exact no i sl g1 m1 g3
        · rw [hi, ← ln] at g3
          have : V.ref p = V.ref p' := by simpa using g3
          cases this
          rcases getE_snoc g2 with ⟨hi', g2⟩ | ⟨hi', rfl⟩
          · rw [List.getElem?_append_left (by rw [ln]; exact hi')] at g4
            exact no i' sl' g2 m2 g4
          · exact ne (hi.trans hi'.symm)
end
end PD
namespace PD
variable [PD.TabL]
open PySem PySem.Spec PyProof.Rows L2

structure G0 where
  P : Program
  w : World
  K : PySem.W.Frag
  mg : Str → Option Value
  base : Heap
structure Ct where
  N : List Str
  sc : Scope
  fb : Str → Bool
  k : Nat
  /-- the def and its code object, where they matter -/
  dn : Option (Str × Value)
structure Cok (g : G0) (c : Ct) (X : Cx) : Prop where
  eP : X.prog = g.P
  ew : X.w = g.w
  eK : X.K = g.K
  em : X.mg = g.mg
  eb : X.base = g.base
  eN : X.N = c.N
  es : X.env.scope = c.sc
  calm : X.calm = true
  nd : X.N.Nodup
  fn : ∀ x, c.fb x = true → X.fn x = true
  room : Room c.k X.A
  gu : X.A.guards = some []
  xe : X.xe = fun _ _ => False
  ec : ∀ x cd, c.dn = some (x, cd) → X.env.code = cd ∧ X.env.qual = x ++ ".<locals>."
def Ct.blk (c : Ct) (scope : Scope) : Ct := ⟨c.N, relS scope c.sc, fun x => scope.names.lookup x == some .cell, c.k, none⟩
theorem Cok.blk {g : G0} {c : Ct} {X : Cx} (h : Cok g c X) (scope : Scope) (s : Shared) (H : Hp) (C : Addr) (cl : List (Str × Addr)) (fp : List Addr) :
    Cok g (c.blk scope) (X.blk s H scope (compEnvC scope cl C X.env) fp) := by
  refine ⟨h.eP, h.ew, h.eK, h.em, h.eb, h.eN, ?_, h.calm, h.nd, fun _ z => z, h.room, h.gu, rfl, fun _ _ z => nomatch z⟩
  show (compEnvC scope cl C X.env).scope = relS scope c.sc
  rw [← h.es]
  rfl

section
variable (g : G0) (c : Ct)
/-- the expression e does m -/
def EE (e : Expr) (m : M Vl) : Prop := ∃ t, (∀ X, Cok g c X → PE X e t) ∧ ∀ A, SEX g.K A t m
def ET (e : Expr) (m : M Bool) : Prop := ∃ t, (∀ X, Cok g c X → PT X e t) ∧ ∀ A, STX g.K A t m
def EW (e : Expr) (m : M Bool) : Prop := ∃ t, (∀ X, Cok g c X → PW X e t) ∧ ∀ A, STX g.K A t m
def EA (es : List Expr) (m : M (List Vl)) : Prop := ∃ t, (∀ X, Cok g c X → PA X es t) ∧ ∀ A, SAX g.K A t m
def EG (e : Expr) (ts : List Nat) (m : Vl → M Unit) : Prop := ∃ t, (∀ X, Cok g c X → PG X e t) ∧ ∀ A, SGX g.K A ts t m
def EGs (es : List Expr) (ts : List Nat) (m : List D → M Unit) : Prop := ∃ t, (∀ X, Cok g c X → PGs X es t) ∧ ∀ A, SGsX g.K A ts t m
def EI (tg e : Expr) (m : M (List D)) : Prop := ∃ t, (∀ X, Cok g c X → PI X tg e t) ∧ ∀ A, SIX g.K A t m
def ES (s : Stmt) (m : SM) : Prop := ∃ t, (∀ X, Cok g c X → PS X s t) ∧ ∀ A, SSX g.K A t m
def ESs (s : List Stmt) (m : SM) : Prop := ∃ t, (∀ X, Cok g c X → PSs X s t) ∧ ∀ A, SSX g.K A t m
end
/-- not starred -/
def Pl (e : Expr) : Prop := ∀ (es : List Expr) (env : PySem.Env), starEach (e :: es) env = (false, eval e env) :: starEach es env

section
variable {g : G0} {c : Ct} {e a b : Expr} {es : List Expr} {pos p : Pos} {m ma mb : M Vl} {ms : M (List Vl)} {mt mu : M Bool}
theorem ea_nil : EA g c [] cN := ⟨_, fun _ _ => pa_nil, fun _ => sa_nil⟩
theorem ea_cons (h : EE g c e m) (hs : EA g c es ms) (pl : Pl e) : EA g c (e :: es) (cA m ms) := by
  obtain ⟨t, h1, h2⟩ := h
  obtain ⟨u, h3, h4⟩ := hs
  exact ⟨_, fun X hX => pa_cons (h1 X hX) (h3 X hX) (pl es X.env), fun A => sa_cons (h2 A) (h4 A)⟩
theorem ee_var {i : Nat} {x : Str} (hN : c.N[i]? = some x) (hv : Vis c.sc x) (hd : (x == ("__debug__" : Str)) = false) (hcd : (x == ("__classdict__" : Str)) = false) : EE g c (.Name x pos) (eV i) :=
  ⟨_, fun X hX => pe_var (by rw [hX.eN]; exact hN) (by rw [hX.es]; exact hv) hd hcd, fun _ => sx_var⟩
theorem ee_int {i : Int} {j} : EE g c (.Constant (.int i) j pos) (eC (.int i)) := ⟨_, fun _ _ => pe_int, fun _ => sx_con fun _ => .int i⟩
theorem ee_bl {v : Bool} {j} : EE g c (.Constant (.bool v) j pos) (eC (.bl v)) := ⟨_, fun _ _ => pe_bl, fun _ => sx_con fun _ => .bl v⟩
theorem ee_non {j} : EE g c (.Constant .none j pos) (eC .non) := ⟨_, fun _ _ => pe_non, fun _ => sx_con fun _ => .non⟩
theorem ee_str {x : Str} {j} (h : PyData.strOk x = true) : EE g c (.Constant (.str x) j pos) (eC (.str x)) := ⟨_, fun _ _ => pe_str, fun _ => sx_con fun _ => .str x h⟩
/-- a global name of the def -/
def GlC (c : Ct) (x : Str) : Prop := c.sc.names.lookup x = some .globalImplicit
theorem gl_of {X : Cx} {x : Str} (hX : Cok g c X) (h : GlC c x) : Gl X x := by
  show X.env.scope.names.lookup x = _
  rw [hX.es]
  exact h
/-- a constant of a module -/
theorem ee_glob {x : Str} {d : D} {v : V} {u : Value} (hg : GlC c x) (hm : g.mg x = some u) (r : RelV v u) (hd : ∀ B, Rp g.K B d v) (hdb : (x == ("__debug__" : Str)) = false) : EE g c (.Name x pos) (eC d) :=
  ⟨_, fun X hX => pe_glob (gl_of hX hg) (by rw [hX.em]; exact hm) r hdb, fun _ => sx_con hd⟩

theorem et_val (h : EE g c e m) (he : ∀ (env : PySem.Env) whole, isTrue e env whole = (do let v ← whole; standAt e.pos; holding [v] (truthy v))) : ET g c e (mB m) := by
  obtain ⟨t, h1, h2⟩ := h
  exact ⟨_, fun X hX => pt_val (h1 X hX) (he X.env), fun A => st_val (h2 A)⟩
theorem et_not (h : ET g c e mt) : ET g c (.UnaryOp .Not e pos) (mNot mt) := by
  obtain ⟨t, h1, h2⟩ := h
  exact ⟨_, fun X hX => pt_not (h1 X hX), fun A => st_not (h2 A)⟩
theorem et_w (h : EW g c e mt) : ET g c e mt := by
  obtain ⟨t, h1, h2⟩ := h
  exact ⟨t, fun X hX => (h1 X hX).pt, h2⟩
theorem ew_and1 (h : ET g c e mt) : EW g c (.BoolOp .And [e] pos) mt := by
  obtain ⟨t, h1, h2⟩ := h
  exact ⟨_, fun X hX => pw_and1 (h1 X hX), h2⟩
theorem ew_or1 (h : ET g c e mt) : EW g c (.BoolOp .Or [e] pos) mt := by
  obtain ⟨t, h1, h2⟩ := h
  exact ⟨_, fun X hX => pw_or1 (h1 X hX), h2⟩
theorem ew_and (h : ET g c a mt) (h' : EW g c (.BoolOp .And (b :: es) pos) mu) : EW g c (.BoolOp .And (a :: b :: es) pos) (mAnd mt mu) := by
  obtain ⟨t, h1, h2⟩ := h
  obtain ⟨u, h3, h4⟩ := h'
  exact ⟨_, fun X hX => pw_and (h1 X hX) (h3 X hX), fun A => st_and (h2 A) (h4 A)⟩
theorem ew_or (h : ET g c a mt) (h' : EW g c (.BoolOp .Or (b :: es) pos) mu) : EW g c (.BoolOp .Or (a :: b :: es) pos) (mOr mt mu) := by
  obtain ⟨t, h1, h2⟩ := h
  obtain ⟨u, h3, h4⟩ := h'
  exact ⟨_, fun X hX => pw_or (h1 X hX) (h3 X hX), fun A => st_or (h2 A) (h4 A)⟩
theorem ee_not (h : EE g c e m) : EE g c (.UnaryOp .Not e pos) (eNot m) := by
  obtain ⟨t, h1, h2⟩ := h
  exact ⟨_, fun X hX => pe_not (h1 X hX), fun A => sx_not (h2 A)⟩
theorem ee_one {op} (h : EE g c e m) : EE g c (.BoolOp op [e] pos) m := by
  obtain ⟨t, h1, h2⟩ := h
  exact ⟨_, fun X hX => pe_one (h1 X hX), h2⟩
theorem ee_and (h : EE g c a ma) (h' : EE g c (.BoolOp .And (b :: es) pos) mb) : EE g c (.BoolOp .And (a :: b :: es) pos) (eAnd ma mb) := by
  obtain ⟨t, h1, h2⟩ := h
  obtain ⟨u, h3, h4⟩ := h'
  exact ⟨_, fun X hX => pe_and (h1 X hX) (h3 X hX), fun A => sx_and (h2 A) (h4 A)⟩
theorem ee_if (hc : ET g c e mt) (h : EE g c a ma) (h' : EE g c b mb) : EE g c (.IfExp e a b pos) (eIf mt ma mb) := by
  obtain ⟨t, h1, h2⟩ := hc
  obtain ⟨u, h3, h4⟩ := h
  obtain ⟨v, h5, h6⟩ := h'
  exact ⟨_, fun X hX => pe_ifExp (h1 X hX) (h3 X hX) (h5 X hX), fun A => sx_if (h2 A) (h4 A) (h6 A)⟩
theorem ee_tup {x1} (h : EA g c es ms) : EE g c (.Tuple es x1 pos) (eTup ms) := by
  obtain ⟨t, h1, h2⟩ := h
  exact ⟨_, fun X hX => pe_tup (h1 X hX), fun A => sx_tup (h2 A)⟩
theorem ee_lst (h : EA g c es ms) : EE g c (.List es pos) (eLst ms) := by
  obtain ⟨t, h1, h2⟩ := h
  exact ⟨_, fun X hX => pe_lst (h1 X hX), fun A => sx_lst (h2 A)⟩

def OpI (g : G0) (op : Value → Value → Sem Value) (f : List D → Option Vl) : Prop := ∃ r : R2, (∀ c X, Cok g c X → OpR X op r) ∧ PrS g.K (on2 r) f
theorem ee_bin {op : Operator} {f : List D → Option Vl} (ho : OpI g (binaryOp op) f) (h : EE g c a ma) (h' : EE g c b mb) : EE g c (.BinOp a op b pos) (eP f (cA ma (cA mb cN))) := by
  obtain ⟨r, o1, o2⟩ := ho
  obtain ⟨t, h1, h2⟩ := h
  obtain ⟨u, h3, h4⟩ := h'
  exact ⟨_, fun X hX => pe_op (o1 c X hX) (h1 X hX) (h3 X hX), fun A => sx_op o2 (h2 A) (h4 A)⟩
theorem ee_cmp {op : CmpOp} {f : List D → Option Vl} (ho : OpI g (compareOp op) f) (h : EE g c a ma) (h' : EE g c b mb) (hm : behindInMarks op b = false) : EE g c (.Compare a [op] [b] pos) (eP f (cA ma (cA mb cN))) := by
  obtain ⟨r, o1, o2⟩ := ho
  obtain ⟨t, h1, h2⟩ := h
  obtain ⟨u, h3, h4⟩ := h'
  exact ⟨_, fun X hX => pe_cmpR (o1 c X hX) (h1 X hX) (h3 X hX) hm, fun A => sx_op o2 (h2 A) (h4 A)⟩
def UnI (g : G0) (op : Value → Sem Value) (f : List D → Option Vl) : Prop := ∃ r : V → Hp → VK → Prop, (∀ c X, Cok g c X → UnR X op r) ∧ PrS g.K (on1 r) f
theorem ee_un {op : UnaryOp} {f : List D → Option Vl} (ho : UnI g (unaryOp op) f) (h : EE g c a ma) : EE g c (.UnaryOp op a pos) (eP f (cA ma cN)) := by
  obtain ⟨r, o1, o2⟩ := ho
  obtain ⟨t, h1, h2⟩ := h
  exact ⟨_, fun X hX => pe_un (o1 c X hX) (h1 X hX), fun A => sx_un o2 (h2 A)⟩
def CaI (g : G0) (f : Value) (d : List D → Option Vl) : Prop := ∃ r : List V → Hp → VK → Prop, (∀ c X, Cok g c X → CallR X f r) ∧ PrS g.K r d
theorem ee_callB {x : Str} {id : String} {d : List D → Option Vl} (ho : CaI g (.builtin id) d) (hg : GlC c x) (hm : g.mg x = none) (hv : bootBuiltins x = some (.builtin id)) (h : EA g c (e :: es) ms) (pl : Pl e)
    (hpl : ∀ env : PySem.Env, (backTo pos (starEach es env)).any (·.1) = false) (hn : x ≠ "__name__") (hdb : (x == ("__debug__" : Str)) = false) : EE g c (.Call (.Name x p) (e :: es) [] pos) (eP d ms) := by
  obtain ⟨r, o1, o2⟩ := ho
  obtain ⟨t, h1, h2⟩ := h
  exact ⟨_, fun X hX => pe_callB (o1 c X hX) (gl_of hX hg) (by rw [hX.em]; exact hm) hv (h1 X hX) hn hdb (pl es X.env) (hpl X.env), fun A => sx_prim o2 (h2 A)⟩
theorem ee_callTy {x : Str} {T : String} {d : List D → Option Vl} (ho : CaI g (.type T) d) (hg : GlC c x) (hm : g.mg x = none) (hv : bootBuiltins x = some (.type T)) (h : EA g c (e :: es) ms) (pl : Pl e)
    (hpl : ∀ env : PySem.Env, (backTo pos (starEach es env)).any (·.1) = false) (hn : x ≠ "__name__") (hdb : (x == ("__debug__" : Str)) = false) : EE g c (.Call (.Name x p) (e :: es) [] pos) (eP d ms) := by
  obtain ⟨r, o1, o2⟩ := ho
  obtain ⟨t, h1, h2⟩ := h
  exact ⟨_, fun X hX => pe_callTy (o1 c X hX) (gl_of hX hg) (by rw [hX.em]; exact hm) hv (h1 X hX) hn hdb (pl es X.env) (hpl X.env), fun A => sx_prim o2 (h2 A)⟩

theorem es_nil : ESs g c [] sNil := ⟨_, fun _ _ => pss_nil, fun _ => ss_nil⟩
theorem es_cons {s : Stmt} {r : List Stmt} {m n : SM} (h : ES g c s m) (h' : ESs g c r n) : ESs g c (s :: r) (sSeq m n) := by
  obtain ⟨t, h1, h2⟩ := h
  obtain ⟨u, h3, h4⟩ := h'
  exact ⟨_, fun X hX => pss_cons (h1 X hX) (h3 X hX), fun A => ss_seq (h2 A) (h4 A)⟩
theorem es_ret (h : EE g c e m) : ES g c (.Return (some e) pos) (sRet m) := by
  obtain ⟨t, h1, h2⟩ := h
  exact ⟨_, fun X hX => ps_ret (h1 X hX), fun A => ss_ret (h2 A)⟩
theorem es_exp (h : EE g c e m) (hs : ∀ env : PySem.Env, swapsWith e none pos.line env = pure false) : ES g c (.Expr e pos) (sExp m) := by
  obtain ⟨t, h1, h2⟩ := h
  exact ⟨_, fun X hX => ps_expr (h1 X hX) (hs X.env), fun A => ss_exp (h2 A)⟩
theorem es_if {s r : List Stmt} {m n : SM} (hc : ET g c e mt) (h : ESs g c s m) (h' : ESs g c r n) : ES g c (.If e s r pos) (sIf mt m n) := by
  obtain ⟨t, h1, h2⟩ := hc
  obtain ⟨u, h3, h4⟩ := h
  obtain ⟨v, h5, h6⟩ := h'
  exact ⟨_, fun X hX => ps_if (h1 X hX) (h3 X hX) (h5 X hX), fun A => ss_if (h2 A) (h4 A) (h6 A)⟩
theorem pown {X : Cx} (hX : Cok g c X) : PassesOwn (model X.prog X.w) X.A X.env X.xe := by
  rw [hX.xe]
  exact PassesOwn.never
theorem es_for {tg : Expr} {s : List Stmt} {ts : List Nat} {mi : M (List D)} {gg : Vl → M Unit} {m : SM} (hi : EI g c tg e mi) (hg : EG g c tg ts gg) (h : ESs g c s m) (hs : ∀ (env : PySem.Env) x, foldedSetIterable e env x = pure x) :
    ES g c (.For tg e s [] pos) (sFor mi gg m) := by
  obtain ⟨t, h1, h2⟩ := hi
  obtain ⟨u, h3, h4⟩ := hg
  obtain ⟨v, h5, h6⟩ := h
  exact ⟨_, fun X hX => ps_for (pown hX) hX.calm (h1 X hX) (h3 X hX) (h5 X hX) (hs X.env), fun A => ss_for (h2 A) (h4 A) (h6 A)⟩
theorem eg_name {i : Nat} {x : Str} (hN : c.N[i]? = some x) (hv : Loc c.sc x) (hf : c.fb x = true ∨ c.sc.names.lookup x = some .local) : EG g c (.Name x pos) [i] (gN i) :=
  ⟨_, fun X hX => pg_name hX.nd (by rw [hX.eN]; exact hN) (by rw [hX.es]; exact hv) (hf.elim (fun z => .inl (hX.fn x z)) fun z => .inr (by rw [hX.es]; exact z)), fun _ => sg_name⟩
theorem egs_nil : EGs g c [] [] gsN := ⟨_, fun _ _ => pgs_nil, fun _ => sgs_nil⟩
theorem egs_cons {ts us : List Nat} {gg : Vl → M Unit} {gs : List D → M Unit} (h : EG g c e ts gg) (h' : EGs g c es us gs) (hs : ∀ env : PySem.Env, (assignEach (e :: es) env).map (·.2) = assign e env :: (assignEach es env).map (·.2)) : EGs g c (e :: es) (ts ++ us) (gsC gg gs) := by
  obtain ⟨t, h1, h2⟩ := h
  obtain ⟨u, h3, h4⟩ := h'
  exact ⟨_, fun X hX => pgs_cons (h1 X hX) (h3 X hX) (hs X.env), fun A => sgs_cons (h2 A) (h4 A)⟩
theorem eg_tup {ts : List Nat} {gs : List D → M Unit} {k n : Nat} (h : EGs g c es ts gs) (hn : ∀ env : PySem.Env, (assignEach es env).length = n) (hst : ∀ env : PySem.Env, (assignEach es env).findIdx? (·.1) = none) : EG g c (.Tuple es k pos) ts (gT n gs) := by
  obtain ⟨t, h1, h2⟩ := h
  exact ⟨gTup g.K n t, fun X hX => by rw [← hX.eK]; exact pg_tup hX.calm (h1 X hX) (hn X.env) (hst X.env), fun A => sg_tup (h2 A)⟩
/-- name = value -/
theorem es_set {i : Nat} {x : Str} {pos' : Pos} (hN : c.N[i]? = some x) (hv : Loc c.sc x) (h : EE g c e m) (hs : ∀ env : PySem.Env, swapsWith e (some (.Name x pos')) pos.line env = pure false) (hf : c.fb x = true ∨ c.sc.names.lookup x = some .local) :
    ES g c (.Assign [.Name x pos'] e pos) (sAsg m (gN i)) := by
  obtain ⟨t, h1, h2⟩ := h
  exact ⟨_, fun X hX => ps_set hX.nd (by rw [hX.eN]; exact hN) (by rw [hX.es]; exact hv) (h1 X hX) (hs X.env) (hf.elim (fun z => .inl (hX.fn x z)) fun z => .inr (by rw [hX.es]; exact z)), fun A => ss_asg (h2 A) sg_name⟩
theorem es_asg {tg : Expr} {ts : List Nat} {gg : Vl → M Unit} (h : EE g c e m) (h' : EG g c tg ts gg) (hs : ∀ env : PySem.Env, swapsWithSole [tg] e pos.line env = pure false) (hw : ∀ env : PySem.Env, env.scope = c.sc → swappedStores [tg] e env = pure none)
    (h1 : ∀ env : PySem.Env, (assignEach [tg] env).map (·.2) = [assign tg env]) : ES g c (.Assign [tg] e pos) (sAsg m gg) := by
  obtain ⟨t, h2, h3⟩ := h
  obtain ⟨u, h4, h5⟩ := h'
  exact ⟨_, fun X hX => ps_asg (h2 X hX) (h4 X hX) (hs X.env) (hw X.env hX.es) (h1 X.env), fun A => ss_asg (h3 A) (h5 A)⟩

def mLst (m : M Vl) : M (List D) := bd m fun r => bd (frz r.hold) fun d => match d with
  | .lst ds => rt ds
  | _ => fun _ => none
def mTup (m : M Vl) : M (List D) := bd m fun r => bd (frz r.hold) fun d => match d with
  | .tup ds => rt ds
  | .tp ds => rt ds
  | _ => fun _ => none
theorem wd_list {K : PySem.W.Frag} {B0 : Hp} {a : Addr} {xs : List V} {ds : List D} (h : SqL K B0 a xs) (r : Rps K B0 ds xs) : WD K (Itl K a) B0 ds := by
  have hl := r.length
  refine ⟨fun i H B hi s1 s2 => walk_list.goes i H (by omega) (sameL s2 (sameL s1 h)), fun H B s1 s2 => ?_, fun i H B x H' hi s1 s2 y => ?_⟩
  · rw [hl]
    exact walk_list.stops H (sameL s2 (sameL s1 h))
  · obtain ⟨e1, e2⟩ := walk_list.yields i H x H' (by omega) (sameL s2 (sameL s1 h)) y
    obtain ⟨d, h1, h2⟩ := r.getV e2
    exact ⟨d, h1, .inl ⟨e1, h2.mono s1⟩⟩
theorem wd_tup {K : PySem.W.Frag} {B0 : Hp} {a : Addr} {xs : List V} {ds : List D} (h : SqT K B0 a xs) (r : Rps K B0 ds xs) : WD K (Itt K a) B0 ds := by
  have hl := r.length
  refine ⟨fun i H B hi s1 s2 => walk_tup.goes i H (by omega) (sameT s2 (sameT s1 h)), fun H B s1 s2 => ?_, fun i H B x H' hi s1 s2 y => ?_⟩
  · rw [hl]
    exact walk_tup.stops H (sameT s2 (sameT s1 h))
  · obtain ⟨e1, e2⟩ := walk_tup.yields i H x H' (by omega) (sameT s2 (sameT s1 h)) y
    obtain ⟨d, h1, h2⟩ := r.getV e2
    exact ⟨d, h1, .inl ⟨e1, h2.mono s1⟩⟩
theorem si_list {K : PySem.W.Frag} {A : Anc} {t : TE} (h : SEX K A t m) : SIX K A (iList K t) (mLst m) := fun σ τ B H env pe env' ds R S hl e q => by
  obtain ⟨r, e1, he, e⟩ := bd_inv e
  obtain ⟨d, e2, hf, e⟩ := bd_inv e
  split at e
  · rename_i ds'
    cases e
    refine h σ τ B H env pe e1 r _ S hl he fun B1 H1 v s1 hl1 hv => ?_
    obtain ⟨B2, s2, S2, hh⟩ := hv.held
    obtain ⟨B3, s3, S3, hl3, rr⟩ := frz_ok S2 hl1 hh hf
    cases rr with
    | @lst a xs _ hs r2 => exact ⟨a, rfl, ⟨xs, .of (S3.same _ _ hs)⟩, q B3 H1 _ ((s1.trans s2).trans s3) hl3 S3 (wd_list (.of hs) r2)⟩
  · cases e
theorem si_tup {K : PySem.W.Frag} {A : Anc} {t : TE} (h : SEX K A t m) : SIX K A (iTup K t) (mTup m) := fun σ τ B H env pe env' ds R S hl e q => by
  obtain ⟨r, e1, he, e⟩ := bd_inv e
  obtain ⟨d, e2, hf, e⟩ := bd_inv e
  split at e
  · rename_i ds'
    cases e
    refine h σ τ B H env pe e1 r _ S hl he fun B1 H1 v s1 hl1 hv => ?_
    obtain ⟨B2, s2, S2, hh⟩ := hv.held
    obtain ⟨B3, s3, S3, hl3, rr⟩ := frz_ok S2 hl1 hh hf
    cases rr with
    | @tup a xs _ hs r2 => exact ⟨a, rfl, ⟨xs, (hs.same S3.same).sq⟩, q B3 H1 _ ((s1.trans s2).trans s3) hl3 S3 (wd_tup hs.sq r2)⟩
  · rename_i ds'
    cases e
    refine h σ τ B H env pe e1 r _ S hl he fun B1 H1 v s1 hl1 hv => ?_
    obtain ⟨B2, s2, S2, hh⟩ := hv.held
    obtain ⟨B3, s3, S3, hl3, rr⟩ := frz_ok S2 hl1 hh hf
    cases rr with
    | @tp a o xs _ hs _ r2 => exact ⟨a, rfl, ⟨xs, .inl (.inr ⟨_, S3.same _ _ hs⟩)⟩, q B3 H1 _ ((s1.trans s2).trans s3) hl3 S3 (wd_tup (.inl (.inr ⟨_, hs⟩)) r2)⟩
  · cases e
theorem ei_list {tg : Expr} (h : EE g c e m) : EI g c tg e (mLst m) := by
  obtain ⟨t, h1, h2⟩ := h
  exact ⟨iList g.K t, fun X hX => by rw [← hX.eK]; exact pi_list (h1 X hX), fun A => si_list (h2 A)⟩
theorem ei_tup {tg : Expr} (h : EE g c e m) : EI g c tg e (mTup m) := by
  obtain ⟨t, h1, h2⟩ := h
  exact ⟨iTup g.K t, fun X hX => by rw [← hX.eK]; exact pi_tup (h1 X hX), fun A => si_tup (h2 A)⟩
/-- ranges -/
def rngD (lo : Int) (n : Nat) : List D := (List.range n).map fun i : Nat => D.int (lo + (i : Int))
theorem wd_range {K : PySem.W.Frag} {B0 : Hp} {lo : Int} {n : Nat} : WD K (Itr lo n) B0 (rngD lo n) := by
  have hl : (rngD lo n).length = n := by simp [rngD]
  refine ⟨fun i H B hi _ _ => ?_, fun H B _ _ => ?_, fun i H B x H' hi _ _ y => ?_⟩
  · show i < n
    omega
  · show n ≤ (rngD lo n).length
    omega
  · obtain ⟨e1, e2⟩ := y
    refine ⟨.int (lo + (i : Int)), ?_, .inl ⟨e1, by rw [e2]; exact .int _⟩⟩
    rw [hl] at hi
    simp [rngD, hi]
def in62 (i : Int) : Bool := decide (-(2 ^ 62) ≤ i) && decide (i < 2 ^ 62)
def mR1 (ms : M (List Vl)) : M (List D) := bd ms fun rs e => match cnts e rs with
  | some [.int j] => if in62 j = true then some (rngD 0 j.toNat, e) else none
  | _ => none
def mR2 (ms : M (List Vl)) : M (List D) := bd ms fun rs e => match cnts e rs with
  | some [.int i, .int j] => if (in62 i && in62 j) = true then some (rngD i (j - i).toNat, e) else none
  | _ => none
theorem in62_ok {i : Int} (h : in62 i = true) : -(2 ^ 62) ≤ i ∧ i < 2 ^ 62 := by
  have h : decide (-(2 ^ 62) ≤ i) = true ∧ decide (i < 2 ^ 62) = true := by simpa [in62] using h
  exact ⟨of_decide_eq_true h.1, of_decide_eq_true h.2⟩
theorem si_r1 {K : PySem.W.Frag} {A : Anc} {t : TA} (h : SAX K A t ms) : SIX K A (iRng1 t) (mR1 ms) := fun σ τ B H env pe env' ds R S hl e q => by
  obtain ⟨rs, e1, he, e⟩ := bd_inv e
  split at e
  · rename_i j hc
    split at e
    · rename_i hj
      cases e
      refine h σ τ B H env pe _ rs _ S hl he fun B1 H1 vs s1 hl1 S1 hr => ?_
      have rr := Hv.rrs S1 hl1 hr hc
      cases rr with
      | cons r1 r2 =>
        cases r2
        obtain ⟨h1, h2⟩ := in62_ok hj
        rw [r1.int]
        exact ⟨j, rfl, h1, h2, q B1 H1 _ s1 hl1 S1 wd_range⟩
    · cases e
  · cases e
theorem ei_r1 {tg : Expr} (hg : GlC c "range") (hm : g.mg "range" = none) (h : EA g c [a] ms) (pl : Pl a) : EI g c tg (.Call (.Name "range" p) [a] [] pos) (mR1 ms) := by
  obtain ⟨t, h1, h2⟩ := h
  exact ⟨_, fun X hX => pi_range1 (gl_of hX hg) (by rw [hX.em]; exact hm) (h1 X hX) (by rw [pl [] X.env]; rfl), fun A => si_r1 (h2 A)⟩
def EPTs (g : G0) (c : Ct) (es : List Expr) (m : M Bool) : Prop := ∃ t, (∀ X, Cok g c X → PTs X es t) ∧ ∀ A, STX g.K A t m
theorem ep_nil : EPTs g c [] (rt true) := ⟨_, fun _ _ => pts_nil, fun A σ τ B H env pe env' b Q S hl e q => by
  cases e
  exact q B H (Same.refl _) hl S⟩
theorem ep_one (h : ET g c e mt) : EPTs g c [e] mt := by
  obtain ⟨t, h1, h2⟩ := h
  exact ⟨_, fun X hX => pts_one (h1 X hX), h2⟩
theorem ee_comp {elt tg iter : Expr} {ifs : List Expr} {scope : Scope} {own : List (Str × Nat)} {ts : List Nat} {mi : M (List D)} {gg : Vl → M Unit} {me : M Vl} (ok : blkC c.N c.sc scope own = true) (nd : (own.map (·.2)).Nodup) (ht : ∀ i ∈ ts, i ∈ own.map (·.2))
    (hi : EI g c tg iter mi) (hg : EG g (c.blk scope) tg ts gg) (hc : EPTs g (c.blk scope) ifs mt) (he : EE g (c.blk scope) elt me) (hs : ∀ (env : PySem.Env) x, foldedSetIterable iter env x = pure x) :
    EE g c (.ListComp elt [⟨tg, iter, ifs, 0⟩] scope pos) (eComp (own.map (·.2)) mi gg mt me) := by
  obtain ⟨t1, h1, k1⟩ := hi
  obtain ⟨t2, h2, k2⟩ := hg
  obtain ⟨t3, h3, k3⟩ := hc
  obtain ⟨t4, h4, k4⟩ := he
  refine ⟨_, fun X hX => pe_lc hX.calm hX.nd (h1 X hX) (blkOk_by (by rw [hX.eN, hX.es]; exact ok)) (fun s H C cl fp => h2 _ (hX.blk scope s H C cl fp)) (fun s H C cl fp => h3 _ (hX.blk scope s H C cl fp)) (fun s H C cl fp => h4 _ (hX.blk scope s H C cl fp)) (hs X.env), fun A => sx_comp nd ht (k1 A) (k2 A) (k3 A) (k4 A)⟩
/-- y = [..] where the store is done within the comprehension's frame -/
theorem es_setLc {i : Nat} {y : Str} {py : Pos} {elt tg iter : Expr} {ifs : List Expr} {scope : Scope} {own : List (Str × Nat)} {spos : Pos} {ts : List Nat} {mi : M (List D)} {gg : Vl → M Unit} {me : M Vl} (hy : c.N[i]? = some y) (hyl : c.sc.names.lookup y = some .local)
    (hsw : ∀ env : PySem.Env, env.scope = c.sc → swapsWith (.ListComp elt [⟨tg, iter, ifs, 0⟩] scope pos) (some (.Name y py)) spos.line env = pure true)
    (ok : blkC c.N c.sc scope own = true) (nd : (own.map (·.2)).Nodup) (ht : ∀ i ∈ ts, i ∈ own.map (·.2)) (hi : EI g c tg iter mi) (hg : EG g (c.blk scope) tg ts gg) (hc : EPTs g (c.blk scope) ifs mt) (he : EE g (c.blk scope) elt me)
    (hs : ∀ (env : PySem.Env) x, foldedSetIterable iter env x = pure x) :
    ES g c (.Assign [.Name y py] (.ListComp elt [⟨tg, iter, ifs, 0⟩] scope pos) spos) (sAsg (eComp (own.map (·.2)) mi gg mt me) (gN i)) := by
  obtain ⟨t1, h1, k1⟩ := hi
  obtain ⟨t2, h2, k2⟩ := hg
  obtain ⟨t3, h3, k3⟩ := hc
  obtain ⟨t4, h4, k4⟩ := he
  refine ⟨_, fun X hX => ps_setLc hX.calm hX.nd (by rw [hX.eN]; exact hy) (by rw [hX.es]; exact hyl) (hsw X.env hX.es) (h1 X hX) (blkOk_by (by rw [hX.eN, hX.es]; exact ok)) (fun s H C cl fp => h2 _ (hX.blk scope s H C cl fp)) (fun s H C cl fp => h3 _ (hX.blk scope s H C cl fp)) (fun s H C cl fp => h4 _ (hX.blk scope s H C cl fp)) (hs X.env), fun A => ss_asg (sx_comp nd ht (k1 A) (k2 A) (k3 A) (k4 A)) sg_name⟩
end
end PD
namespace PD
variable [PD.TabL]
open PySem PySem.Spec PyProof.Rows L2

structure FnG (g : G0) (k : Nat) (f : Addr) (fd : FuncData) (ps : List Str) (sp : Sp) : Prop where
  len : ∀ vs H Q, sp vs H Q E0 → vs.length = ps.length
  run : ∀ (A : Around) (outer : List PySem.Env) (s : Shared) (H : Hp) (args : Args) (us : List Value) (vs : List V) (Q : VK), Room k A → A.guards = some [] → Env0 g.P g.w g.K g.mg g.base A outer s H →
    BindsTo s fd args (ps.zip us) → Vals vs us → sp vs H Q E0 → codeAny (model g.P g.w) A (.call (.ref f) args) (CR CX0 outer g.P g.w H s Q E0) s

/-- the def x stands in the text and does F -/
structure FnI (g : G0) (x : Str) (k : Nat) (F : Fs) : Prop where
  ex : ∃ (f : Addr) (fd : FuncData) (ps : List Str), g.mg x = some (.ref f) ∧ PySem.W.keepIn g.K (.ref f) = true ∧ Binds g.K fd ps [] ∧ FnG g k f fd ps (spF g.K F)
theorem FnI.mono {g : G0} {x : Str} {j k : Nat} {F : Fs} (h : FnI g x j F) (hj : j ≤ k) : FnI g x k F := by
  obtain ⟨f, fd, ps, h1, h2, h3, h4⟩ := h.ex
  exact ⟨f, fd, ps, h1, h2, h3, ⟨h4.len, fun A outer s H args us vs Q hr => h4.run A outer s H args us vs Q (hr.mono hj)⟩⟩

def nmOut : List Bool → List D → Bool
  | true :: bs, d :: ds => d.nmC && nmOut bs ds
  | false :: bs, _ :: ds => nmOut bs ds
  | _, _ => true
theorem nmOut_at : ∀ {sig : List Bool} {ds : List D} {j : Nat} {d : D}, nmOut sig ds = true → sig[j]? = some true → ds[j]? = some d → d.nmC = true
  | [], _, _, _, _, h, _ => by simp at h
  | _ :: _, [], _, _, _, _, h => by simp at h
  | b :: bs, d :: ds, 0, _, h, h1, h2 => by
    simp at h1 h2
    subst h1 h2
    have h : d.nmC = true ∧ nmOut bs ds = true := by simpa [nmOut] using h
    exact h.1
  | b :: bs, d :: ds, j + 1, d', h, h1, h2 => by
    refine nmOut_at (sig := bs) (ds := ds) (j := j) ?_ (by simpa using h1) (by simpa using h2)
    cases b with
    | true =>
      have h : d.nmC = true ∧ nmOut bs ds = true := by simpa [nmOut] using h
      exact h.2
    | false => exact h
def disj (xs ys : List Nat) : Bool := xs.all fun i => !ys.contains i
def callE (F : Fs) (rs : List Vl) : M Vl := fun e => match cnts e rs with
  | some ds => if (ioAll e F.sig rs && decide (ioIx F.sig rs).Nodup && disj (ioIx F.sig rs) (brIx e F.sig rs)) = true then match F.sem ds with
      | some (r, ds') => if ((brIx e F.sig rs).isEmpty || (r.nm && nmOut F.sig ds')) = true then some (r, updE F.sig rs ds' e) else none
      | none => none
    else none
  | none => none
def frzA : List Bool → List Vl → M (List Vl)
  | false :: bs, .bo i :: rs => bd (frz (.bo i)) fun d => bd (frzA bs rs) fun r => rt (.im d :: r)
  | _ :: bs, v :: rs => bd (frzA bs rs) fun r => rt (v :: r)
  | _, rs => rt rs
section
variable {K : PySem.W.Frag} {A : Anc} {σ τ : L2.St} {pe : Env}
theorem callE_ok {F : Fs} {rs : List Vl} {vs : List V} {B H : Hp} {env env' : Env} {r : Vl} (S : SR K A B H (σ ++ τ) (env ++ pe)) (hl : σ.length = env.length) (hr : Paired (Hv K B σ) rs vs) (e : callE F rs env = some (r, env')) (Q : VK)
    (q : ∀ B' H' v, Same B B' → σ.length = env'.length → VR K A B' H' σ τ env' pe r v → Q v H') (E : XK) : spF K F vs H Q E := by
  unfold callE at e
  split at e
  · rename_i ds hc
    split at e
    · rename_i hk
      have hk : (ioAll env F.sig rs = true ∧ (ioIx F.sig rs).Nodup) ∧ disj (ioIx F.sig rs) (brIx env F.sig rs) = true := by simpa using hk
      split at e
      · rename_i r' ds' hf
        split at e
        · rename_i hn
          cases e
          refine call_ok S hl hr hc hk.1.1 hk.1.2 (fun i hi => ?_) hf ?_ Q (fun B' H' v s h => q B' H' v s (by rw [updE_length]; exact hl) h) E
          · have := List.all_eq_true.mp hk.2 i hi
            simpa using this
          · rcases Bool.or_eq_true_iff.mp hn with h | h
            · exact .inl (by simpa using h)
            · have h := Bool.and_eq_true_iff.mp h
              exact .inr ⟨h.1, fun j d h1 h2 => nmOut_at h.2 h1 h2⟩
        · cases e
      · cases e
    · cases e
  · cases e
theorem frzA_ok : ∀ {sig : List Bool} {rs : List Vl} {vs : List V} {B H : Hp} {env env' : Env} {rs' : List Vl}, SR K A B H (σ ++ τ) (env ++ pe) → σ.length = env.length → Paired (Hv K B σ) rs vs → frzA sig rs env = some (rs', env') →
    ∃ B', Same B B' ∧ SR K A B' H (σ ++ τ) (env' ++ pe) ∧ σ.length = env'.length ∧ Paired (Hv K B' σ) rs' vs
  | [], rs, vs, B, H, env, env', rs', S, hl, hr, e => by
    cases rs <;> (cases e; exact ⟨B, Same.refl _, S, hl, hr⟩)
  | b :: bs, [], vs, B, H, env, env', rs', S, hl, hr, e => by
    cases b <;> (cases e; exact ⟨B, Same.refl _, S, hl, hr⟩)
  | b :: bs, v :: rs, u :: vs, B, H, env, env', rs', S, hl, .cons h t, e => by
    have keep : ∀ {e' : bd (frzA bs rs) (fun r => rt (v :: r)) env = some (rs', env')}, ∃ B', Same B B' ∧ SR K A B' H (σ ++ τ) (env' ++ pe) ∧ σ.length = env'.length ∧ Paired (Hv K B' σ) rs' (u :: vs) := by
      intro e'
      obtain ⟨r1, e1, h1, h2⟩ := bd_inv e'
      cases h2
      obtain ⟨B1, s1, S1, hl1, p1⟩ := frzA_ok S hl t h1
      exact ⟨B1, s1, S1, hl1, .cons (h.mono s1) p1⟩
    cases b with
    | true => exact keep (e' := e)
    | false =>
      cases v with
      | im d => exact keep (e' := e)
      | fr d => exact keep (e' := e)
      | bo i =>
        obtain ⟨d, e1, h1, e⟩ := bd_inv e
        obtain ⟨r1, e2, h2, e⟩ := bd_inv e
        cases e
        obtain ⟨B1, s1, S1, hl1, rr⟩ := frz_ok S hl h h1
        obtain ⟨B2, s2, S2, hl2, p2⟩ := frzA_ok S1 hl1 (Paired.mapP t fun _ _ z => z.mono s1) h2
        exact ⟨B2, s1.trans s2, S2, hl2, .cons (rr.mono s2) p2⟩
end
section
variable {g : G0} {c : Ct} {e : Expr} {es : List Expr} {pos p : Pos} {ms : M (List Vl)}
theorem runG {X : Cx} {f : Addr} {fd : FuncData} {ps : List Str} {sp : Sp} {k : Nat} (hX : Cok g c X) (F : FnG g k f fd ps sp) (hk : k ≤ c.k) (hb : Binds g.K fd ps []) {pins : List (Addr × Obj)} {σ : L2.St} {H : Hp} {s : Shared} {Q : VK} {us : List Value} {vs : List V} (I : Inv X pins σ H s) (r : Vals vs us) (h : sp vs H Q E0) :
    wpAny (model X.prog X.w) X.A (call (.ref f) us) (EP X pins σ Q) X.xe s := by
  have e0 := I.env0
  rw [hX.eP, hX.ew, hX.eK, hX.em, hX.eb] at e0
  have hl : (us ++ ([] : List Value)).length = ps.length := by
    rw [List.append_nil, ← r.length]
    exact F.len _ _ _ h
  have kin : g.K.In s.heap := by
    rw [← hX.eK]
    exact I.kIn
  have hb' := hb s us kin hl
  rw [List.append_nil] at hb'
  have run := F.run X.A X.stack s H ⟨us, []⟩ us vs Q (hX.room.mono hk) hX.gu e0 hb' r h
  rw [← hX.eP, ← hX.ew] at run
  refine wpAny_call (codeAny_mono run fun r s' hq => ?_)
  cases r with
  | error e => exact hq.elim
  | ok fl =>
    cases fl with
    | ret u => exact I.after hq
    | next => exact hq.elim
    | brk => exact hq.elim
    | cont => exact hq.elim
end

def outE : List Bool → Nat → Env → List D → Option (List D)
  | b :: bs, k, e, d :: ds => match outE bs (k + 1) e ds with
    | none => none
    | some r => if b = true then match e[k]? with
        | some (.io j d') => if j = k then some (d' :: r) else none
        | _ => none
      else some (d :: r)
  | _, _, _, _ => some []
def retV (e : Env) : Vl → Option Vl
  | .im d => some (.im d)
  | .fr d => some (.fr d)
  | .bo i => match e[i]? with
    | some (.ow d) => some (.fr d)
    | some (.im d) => some (.im d)
    | _ => none
def runF (sig : List Bool) (n : Nat) (body : SM) (ds : List D) : Option (Vl × List D) :=
  if ds.length = sig.length then match body (mkE 0 sig ds ++ List.replicate (n - ds.length) .em) with
    | some (.nx, e) => match outE sig 0 e ds with
      | some o => some (.im .non, o)
      | none => none
    | some (.rt r, e) => match retV e r, outE sig 0 e ds with
      | some r', some o => some (r', o)
      | _, _ => none
    | _ => none
  else none
theorem outE_at : ∀ {sig : List Bool} {k : Nat} {e : Env} {ds o : List D}, ds.length = sig.length → outE sig k e ds = some o → o.length = ds.length ∧
    ∀ (j : Nat) (b : Bool) (d : D), sig[j]? = some b → o[j]? = some d → (b = true ∧ e[k + j]? = some (.io (k + j) d)) ∨ (b = false ∧ ds[j]? = some d)
  | [], k, e, ds, o, hl, h => by
    have : ds = [] := List.length_eq_zero_iff.mp (by simpa using hl)
    subst this
    cases h
    exact ⟨rfl, fun j b d h => by simp at h⟩
  | b :: bs, k, e, [], o, hl, h => by simp at hl
  | b :: bs, k, e, d :: ds, o, hl, h => by
    unfold outE at h
    split at h
    · cases h
    · rename_i r hr
      obtain ⟨h1, h2⟩ := outE_at (sig := bs) (k := k + 1) (by simpa using hl) hr
      split at h
      · rename_i hb
        split at h
        · rename_i j0 d' he
          split at h
          · rename_i hj
            cases h
            subst hj
            refine ⟨by simp [h1], fun j b' d2 g1 g2 => ?_⟩
            cases j with
            | zero =>
              simp at g1 g2
              subst g1 g2
              exact .inl ⟨hb, he⟩
            | succ j =>
              have := h2 j b' d2 (by simpa using g1) (by simpa using g2)
              rw [show j0 + 1 + j = j0 + (j + 1) by omega] at this
              simpa using this
          · cases h
        · cases h
      · rename_i hb
        cases h
        refine ⟨by simp [h1], fun j b' d2 g1 g2 => ?_⟩
        cases j with
        | zero =>
          simp at g1 g2
          subst g1 g2
          exact .inr ⟨by simpa using hb, rfl⟩
        | succ j =>
          have := h2 j b' d2 (by simpa using g1) (by simpa using g2)
          rw [show k + 1 + j = k + (j + 1) by omega] at this
          simpa using this
section
variable {K : PySem.W.Frag} {A : Anc}
theorem SR.ems {B H : Hp} {σ : L2.St} {env : Env} (S : SR K A B H σ env) (n : Nat) : SR K A B H (σ ++ List.replicate n none) (env ++ List.replicate n .em) := by
  refine S.sub (by simp [S.len]) id (fun _ _ _ _ _ _ _ _ h => h) (fun i sl e ne => ?_)
  by_cases hi : i < env.length
  · rw [List.getElem?_append_left hi] at e
    exact ⟨e, by rw [List.getElem?_append_left (by rw [S.len]; exact hi)]; rfl⟩
  · rw [List.getElem?_append_right (by omega), List.getElem?_replicate] at e
    split at e
    · cases e
      exact absurd rfl ne
    · cases e
/-- the parameters behind the body -/
theorem params_end {sig : List Bool} {ds o : List D} {vs : List V} {B H B1 H1 : Hp} {σ : L2.St} {env : Env} (S0 : SR K A B H (vs.map some) (mkE 0 sig ds)) (hd : ds.length = sig.length) (s : Same B B1) (S : SR K A B1 H1 σ env) (ho : outE sig 0 env ds = some o) :
    o.length = ds.length ∧ SR K A B1 H1 (vs.map some) (mkE 0 sig o) := by
  obtain ⟨h1, h2⟩ := outE_at hd ho
  refine ⟨h1, ?_⟩
  have lv : vs.length = sig.length := by
    have := S0.len
    rw [List.length_map, mkE_length hd] at this
    exact this
  refine ⟨by rw [List.length_map, mkE_length (by omega)]; omega, S.same, fun j sl ov e1 e2 => ?_, fun i j p sl sl' ne e1 e2 m1 m2 e3 e4 => ?_, S.anc, S.iob, S.ioh, S.tab⟩
  · obtain ⟨b, d, g1, g2, rfl⟩ := mkE_get e1
    have hj : j < ds.length := by
      have := (List.getElem?_eq_some_iff.mp g1).1
      omega
    have hd0 := List.getElem?_eq_getElem hj
    have old := S0.slot j _ ov (mkE_at (k := 0) g1 hd0) e2
    rcases h2 j b d g1 g2 with ⟨rfl, he⟩ | ⟨rfl, hds⟩
    · rw [if_pos rfl] at old ⊢
      rw [Nat.zero_add] at he old ⊢
      cases old with
      | @io _ p _ a1 c1 =>
        have hi := (List.getElem?_eq_some_iff.mp he).1
        have hs := List.getElem?_eq_getElem (l := σ) (i := j) (by rw [S.len]; exact hi)
        cases hv : σ[j]'(by rw [S.len]; exact hi) with
        | none =>
          rw [hv] at hs
          cases S.slot j _ _ he hs
        | some v =>
          rw [hv] at hs
          cases S.slot j _ _ he hs with
          | @io _ p' _ a2 c2 =>
            rw [a1] at a2
            cases a2
            exact .io a1 c2
    · rw [if_neg Bool.false_ne_true] at old ⊢
      rw [hd0] at hds
      cases hds
      cases old with
      | im r => exact .im (r.mono s)
  · obtain ⟨b, d, g1, g2, rfl⟩ := mkE_get e1
    obtain ⟨b', d', g1', g2', rfl⟩ := mkE_get e2
    have hj : i < ds.length := by
      have := (List.getElem?_eq_some_iff.mp g1).1
      omega
    have hj' : j < ds.length := by
      have := (List.getElem?_eq_some_iff.mp g1').1
      omega
    refine S0.inj i j p _ _ ne (mkE_at (k := 0) g1 (List.getElem?_eq_getElem hj)) (mkE_at (k := 0) g1' (List.getElem?_eq_getElem hj')) ?_ ?_ e3 e4
    · cases b with
      | true => rfl
      | false => cases m1
    · cases b' with
      | true => rfl
      | false => cases m2
/-- what is given back is the caller's own from there on -/
theorem give_back {sig : List Bool} {o : List D} {vs : List V} {B1 H1 : Hp} {d : D} {p : Addr} (S : SR K A B1 H1 (vs.map some) (mkE 0 sig o)) (ho : o.length = sig.length) (b : B1 p = none) (h0 : A.H0 p = none) (c : Cont K B1 d (H1 p)) :
    SR K A B1 H1 (vs.map some ++ [some (.ref p)]) (mkE 0 sig o ++ [.ow d]) := by
  have ln := S.len
  have no : ∀ (i : Nat) (sl : Sl), (mkE 0 sig o)[i]? = some sl → sl.mut = true → (vs.map some)[i]? ≠ some (some (V.ref p)) := fun i sl e m z => by
    obtain ⟨bb, d', g1, g2, rfl⟩ := mkE_get e
    cases bb with
    | false => cases m
    | true =>
      rw [if_pos rfl] at e
      cases S.slot i _ _ e z with
      | io a1 c1 =>
        obtain ⟨u, hu⟩ := S.ioh p ⟨_, a1⟩
        rw [h0] at hu
        cases hu
  refine ⟨by simp only [List.length_append, List.length_cons, List.length_nil] at ln ⊢; omega, S.same, fun i sl ov g1 g2 => ?_, fun i i' p' sl sl' ne g1 g2 m1 m2 g3 g4 => ?_, S.anc, S.iob, S.ioh, S.tab⟩
  · rcases getE_snoc g1 with ⟨hi, g1⟩ | ⟨hi, rfl⟩
    · rw [List.getElem?_append_left (by rw [ln]; exact hi)] at g2
      exact S.slot i sl ov g1 g2
    · rw [hi, ← ln] at g2
      have : ov = some (.ref p) := by simpa using g2.symm
      subst this
      exact .ow b h0 c
  · rcases getE_snoc g1 with ⟨hi, g1⟩ | ⟨hi, rfl⟩
    · rw [List.getElem?_append_left (by rw [ln]; exact hi)] at g3
      rcases getE_snoc g2 with ⟨hi', g2⟩ | ⟨hi', rfl⟩
      · rw [List.getElem?_append_left (by rw [ln]; exact hi')] at g4
        exact S.inj i i' p' sl sl' ne g1 g2 m1 m2 g3 g4
      · rw [hi', ← ln] at g4
        have : V.ref p = V.ref p' := by simpa using g4
        cases this
        exact no i sl g1 m1 g3
    · rw [hi, ← ln] at g3
      have : V.ref p = V.ref p' := by simpa using g3
      cases this
      rcases getE_snoc g2 with ⟨hi', g2⟩ | ⟨hi', rfl⟩
      · rw [List.getElem?_append_left (by rw [ln]; exact hi')] at g4
        exact no i' sl' g2 m2 g4
      · exact ne (hi.trans hi'.symm)
theorem body_ok {sig : List Bool} {n : Nat} {body : SM} {t : TS} (hn : sig.length ≤ n) (hb : ∀ A, SSX K A t body) {N : List Str} (hN : N.length = n) {vs : List V} {H : Hp} {Q : VK} {E : XK} (h : spF K ⟨runF sig n body, sig⟩ vs H Q E) :
    t { nx := fun _ H' => Q .non H', rt := Q } (L2.start N vs) H := by
  obtain ⟨A, B, ds, ds', r, hA, hB, S, hd, hf, q⟩ := h
  have hf : runF sig n body ds = some (r, ds') := hf
  have hd : ds.length = sig.length := hd
  unfold runF at hf
  rw [if_pos hd] at hf
  have lv : vs.length = sig.length := by
    have := S.len
    rw [List.length_map] at this
    rw [this]
    exact mkE_length hd
  have S0 : SR K A B H (L2.start N vs) (mkE 0 sig ds ++ List.replicate (n - ds.length) .em) := by
    have e : L2.start N vs = vs.map some ++ List.replicate (n - ds.length) none := by
      unfold L2.start
      rw [hN, lv, hd]
    rw [e]
    exact S.ems _
  split at hf
  · rename_i e1 hbe
    split at hf
    · rename_i o ho
      cases hf
      refine hb A (L2.start N vs) B H _ e1 .nx _ S0 hbe fun σ1 B1 H1 s1 S1 => ?_
      obtain ⟨lo, S2⟩ := params_end S hd s1 S1 ho
      exact q B1 H1 .non s1 lo ⟨S2, .non⟩
    · cases hf
  · rename_i r0 e1 hbe
    split at hf
    · rename_i r' o hr ho
      cases hf
      refine hb A (L2.start N vs) B H _ e1 (.rt r0) _ S0 hbe fun σ1 B1 H1 v s1 hl1 hv => ?_
      have S1 : SR K A B1 H1 σ1 e1 := hv.drop.app_nil
      obtain ⟨lo, S2⟩ := params_end S hd s1 S1 ho
      have lo2 : ds'.length = sig.length := by omega
      cases r0 with
      | im d =>
        cases hr
        exact q B1 H1 v s1 lo ⟨S2, hv.2⟩
      | fr d =>
        cases hr
        have hv : SR K A B1 H1 (σ1 ++ [] ++ [some v]) (e1 ++ [] ++ [.ow d]) := hv
        rw [List.append_nil, List.append_nil] at hv
        have g1 : (e1 ++ [Sl.ow d])[e1.length]? = some (.ow d) := by simp
        have g2 : (σ1 ++ [some v])[e1.length]? = some (some v) := by
          rw [← hl1]
          simp
        cases hv.slot _ _ _ g1 g2 with
        | ow b h0 c => exact q B1 H1 _ s1 lo (give_back S2 lo2 b h0 c)
      | bo i =>
        obtain ⟨_, hi⟩ := hv
        unfold retV at hr
        dsimp only at hr
        split at hr
        · rename_i d he
          cases hr
          cases S1.slot _ _ _ he hi with
          | ow b h0 c => exact q B1 H1 _ s1 lo (give_back S2 lo2 b h0 c)
        · rename_i d he
          cases hr
          cases S1.slot _ _ _ he hi with
          | im r => exact q B1 H1 v s1 lo ⟨S2, r⟩
        · cases hr
    · cases hf
  · cases hf
end

/-- where a def of the text stands -/
structure DefAt (g : G0) (x : Str) (st : Stmt) (ps : List Str) : Prop where
  ex : ∃ (f : Addr) (fd : FuncData), g.mg x = some (.ref f) ∧ Fun g.K x x st f fd ∧ Binds g.K fd ps []
theorem fn_none {g : G0} {x : Str} {st : Stmt} {ps : List Str} (D : DefAt g x st ps) (k : Nat) (sig : List Bool) : FnI g x k ⟨fun _ => none, sig⟩ := by
  obtain ⟨f, fd, h1, h2, h3⟩ := D.ex
  have no : ∀ {vs : List V} {H : Hp} {Q : VK} {E : XK}, ¬ spF g.K ⟨fun _ => none, sig⟩ vs H Q E := fun ⟨_, _, _, _, _, _, _, _, _, h, _⟩ => nomatch h
  exact ⟨f, fd, ps, h1, h2.kp, h3, ⟨fun vs H Q h => (no h).elim, fun A outer s H args us vs Q _ _ _ _ _ h => (no h).elim⟩⟩
theorem fn_atD {g : G0} {x : Str} {st : Stmt} {f : Addr} {fd : FuncData} {N ps : List Str} {sig : List Bool} {body : SM} {k : Nat} {dn : Option (Str × Value)} (hdn : ∀ y cd, dn = some (y, cd) → y = x ∧ cd = fd.code) (h2 : Fun g.K x x st f fd) (S : FnScope N ps (defScope st)) (hs : sig.length = ps.length) (hb : ESs g ⟨N, defScope st, fun _ => true, k, dn⟩ (defBody st) body) :
    FnG g (k + 1) f fd ps (spF g.K ⟨runF sig N.length body, sig⟩) := by
  obtain ⟨oc, od, kV, doc, pm, an, cdv, ct, osl, rfl, lk, hcd⟩ := h2.ex
  have len : ∀ vs H Q, spF g.K ⟨runF sig N.length body, sig⟩ vs H Q E0 → vs.length = ps.length := fun vs H Q ⟨A, B, ds, ds', r, _, _, S', hd, _⟩ => by
    have := S'.len
    have hd : ds.length = sig.length := hd
    rw [List.length_map] at this
    rw [this, ← hs]
    exact mkE_length hd
  have hpl : ps.length ≤ N.length := by
    have := congrArg List.length S.pre
    rw [List.length_take] at this
    omega
  obtain ⟨t, ht, hq⟩ := hb
  refine ⟨len, fun A outer s H args us vs Q hr hgu e0 hbd r hsp => ?_⟩
  have hl := len _ _ _ hsp
  have KX : g.K.In s.heap := e0.mod.kin.keeps fun b o e => (e0.bs b o e).1
  have lim : s.heap.NoLimit := e0.mod.nolimit.keeps fun b o e => (e0.bs b o e).1
  have hkind : ∀ y ∈ ps.zip us, (defScope st).names.lookup y.1 = some .local ∨ ((defScope st).names.lookup y.1 = some .cell ∧ ((cellsFrom (s.heap.objs.size + 1) (defScope st).names []).lookup y.1).isSome = true) := fun ⟨n, v⟩ hy => by
    rcases S.par n (List.of_mem_zip hy).1 with q | q
    · exact .inl q
    · exact .inr ⟨q, PySem.W.cellsFrom_some _ _ _ (.inl q)⟩
  refine codeAny_call_function hr.depth (KX _ _ lk) rfl S.co S.gen rfl (PySem.W.codeRec_of KX hcd) (hbd _ _ _ _ ?_)
  refine wpAny_newFunctionEnv_cells S.kind hkind fun env he s1 x1 => ?_
  subst he
  refine ⟨lim.keeps x1.toInCall.keep, codeAny_func ?_⟩
  have I : Inv (cxOf CX0 g.P g.w g.K g.mg g.base N x (defScope st) f cdv A outer s H E0) [] (L2.start N vs) H s1 := inv_start S hr.hd e0 hl r x1
  have cok : Cok g ⟨N, defScope st, fun _ => true, k, dn⟩ (cxOf CX0 g.P g.w g.K g.mg g.base N x (defScope st) f cdv A outer s H E0).nox :=
    ⟨rfl, rfl, rfl, rfl, rfl, rfl, rfl, rfl, S.nd, fun _ _ => rfl, hr.deeper _, hgu, rfl, fun y cd e => by
      obtain ⟨rfl, rfl⟩ := hdn y cd e
      exact ⟨rfl, rfl⟩⟩
  have hq2 := body_ok (n := N.length) (by omega) hq rfl hsp
  refine wpAny_mono ((ht _ cok).nox.run [] s1 (L2.start N vs) H _ I hq2) (fun fl s' hs' => ?_) fun e s' hs' => hs'
  have fin : ∀ {σ' : L2.St} {H' : Hp} {v : V} {u : Value}, Inv (cxOf CX0 g.P g.w g.K g.mg g.base N x (defScope st) f cdv A outer s H E0) [] σ' H' s' → RelV v u → Q v H' → CE outer g.P g.w H s Q u s' :=
    fun {σ' H' v u} J rv q => ⟨v, H', J.os, J.bare, J.base, J.hok, rv, q⟩
  cases fl with
  | ret u =>
    obtain ⟨v, σ', H', J, rv, q⟩ := hs'
    exact fin J rv q
  | next =>
    obtain ⟨σ', H', J, q⟩ := hs'
    exact fin (v := V.non) (u := Value.none) J rfl q
  | brk =>
    obtain ⟨_, _, _, q⟩ := hs'
    exact False.elim q
  | cont =>
    obtain ⟨_, _, _, q⟩ := hs'
    exact False.elim q
theorem fn_at {g : G0} {x : Str} {st : Stmt} {f : Addr} {fd : FuncData} {N ps : List Str} {sig : List Bool} {body : SM} {k : Nat} (h2 : Fun g.K x x st f fd) (S : FnScope N ps (defScope st)) (hs : sig.length = ps.length) (hb : ESs g ⟨N, defScope st, fun _ => true, k, none⟩ (defBody st) body) :
    FnG g (k + 1) f fd ps (spF g.K ⟨runF sig N.length body, sig⟩) := fn_atD (dn := none) (fun _ _ z => nomatch z) h2 S hs hb
theorem fn_rule {g : G0} {x : Str} {st : Stmt} {N ps : List Str} {sig : List Bool} {body : SM} {k : Nat} (D : DefAt g x st ps) (S : FnScope N ps (defScope st)) (hs : sig.length = ps.length) (hb : ESs g ⟨N, defScope st, fun _ => true, k, none⟩ (defBody st) body) :
    FnI g x (k + 1) ⟨runF sig N.length body, sig⟩ := by
  obtain ⟨f, fd, h1, h2, h3⟩ := D.ex
  exact ⟨f, fd, ps, h1, h2.kp, h3, fn_at h2 S hs hb⟩
end PD
namespace PD
variable [PD.TabL]
open PySem PySem.Spec PyProof.Rows L2

/-- the law's call, behind the top: the script is the one thing that is tracked -/
theorem top_call {P : Program} {w : World} {K : PySem.W.Frag} {mg mb : Str → Option Value} {k : Nat} {fa a : Addr} {fd : FuncData} {x : Str} {sp : Sp} {s1 : Shared} {vs : List Value} {ns : List Int}
    (KX : K.In s1.heap) (hns : s1.heap.Ns mainGlobals mg) (hb : s1.heap.Ns builtinsNs mb) (hbb : ∀ x : Str, x ≠ "__name__" → mb x = bootBuiltins x) (hlim : s1.heap.NoLimit) (hg : s1.gens = #[])
    (ha : s1.heap.get? a = some { cls := .type "list", data := .seq vs.toArray }) (hi : IntsAre vs ns) (hl : ns.length ≤ sizeLine) (hr : Room k callerA)
    (F : ∀ base : Heap, K.In base → base.Ns mainGlobals mg → FnG ⟨P, w, K, mg, base⟩ k fa fd [x] sp) (hbind : ∀ (s : Shared) (u : Value), BindsTo s fd ⟨[u], []⟩ [(x, u)])
    (hsp : ∀ H : Hp, SqL K H a (ns.map V.int) → sp [.ref a] H (fun v _ => v = .bl true) E0) :
    codeAny (model P w) callerA (.call (.ref fa) ⟨[.ref a], []⟩) (fun r s' => r = .ok (.ret (.bool true)) ∧ OldK s1.heap s'.heap ∧ s'.os = s1.os ∧ AllBare s'.gens) s1 := by
  have rv := vals_ints hi
  have lv := hi.length
  have go : ∀ H : Hp, Only H → SqL K H a (ns.map V.int) → HOk P w H s1.heap → (∀ b, H b ≠ none → b = a) → (H a ≠ none → K.lookup a = none) →
      codeAny (model P w) callerA (.call (.ref fa) ⟨[.ref a], []⟩) (fun r s' => r = .ok (.ret (.bool true)) ∧ OldK s1.heap s'.heap ∧ s'.os = s1.os ∧ AllBare s'.gens) s1 := fun H hO hS hok hA hK => by
    have nd : ∀ {b : Addr} {o : Obj} {es : Array DictEntry} {ep : Nat}, s1.heap.get? b = some o → o.data = .dict es ep → H b = none := fun {b o es ep} e d => by
      by_cases q : H b = none
      · exact q
      · have e' := hA b q
        subst e'
        rw [ha] at e
        cases e
        cases d
    have nsK : ∀ {b : Addr} {m : Str → Option Value}, s1.heap.Ns b m → (hidT s1.heap H).Ns b m := fun ⟨o, es, ep, e, d, r⟩ => ⟨o, es, ep, hidT_get e (nd e d), d, r⟩
    have kb : K.In (hidT s1.heap H) := fun b o e => hidT_get (KX b o e) (by
      by_cases q : H b = none
      · exact q
      · have e' := hA b q
        subst e'
        rw [hK q] at e
        cases e)
    have md : Mod K mg (hidT s1.heap H) := ⟨kb, nsK hns, ⟨mb, nsK hb, hbb⟩, by
      obtain ⟨mc, h1, h2⟩ := hlim
      exact ⟨mc, nsK h1, h2⟩⟩
    have en : Env0 P w K mg (hidT s1.heap H) callerA [] s1 H := ⟨rfl, md, fun b o e => of_hidT e, Nat.le_of_eq (hidT_size _ _), trivial, fun b hb => absurd (show b ∈ ([] : List Addr) from hb) (by simp), hok, .of_eq hg⟩
    have run := (F _ kb (nsK hns)).run callerA [] s1 H ⟨[.ref a], []⟩ [.ref a] [.ref a] (fun v _ => v = .bl true) hr rfl en (hbind s1 (.ref a)) (.cons rfl .nil) (hsp H hS)
    refine codeAny_mono run fun r s' h => ?_
    match r, h with
    | .ok (.ret u), h =>
      obtain ⟨v, H', os, bare, un, hok', r', q⟩ := h
      obtain rfl : v = .bl true := q
      obtain rfl : u = Value.bool true := r'
      refine ⟨rfl, OldK.of_keep fun b o e => ?_, os, bare⟩
      cases q : H b with
      | none => exact un.keep b o e q (fun z => absurd (show b ∈ ([] : List Addr) from z) (by simp)) (by simp)
      | some u =>
        rcases hO b with z | ⟨ob, xs, z⟩
        · rw [q] at z
          cases z
        · obtain ⟨e1, _⟩ := hok b _ z
          obtain ⟨e2, _⟩ := hok' b _ (un.frzs b ob _ z)
          rw [e] at e1
          cases e1
          exact e2
    | .ok .next, h => exact h.elim
    | .ok .brk, h => exact h.elim
    | .ok .cont, h => exact h.elim
    | .error e, h => exact h.elim
  cases hk : K.lookup a with
  | some o =>
    have e := KX a o hk
    rw [ha] at e
    cases e
    have no : ∀ (b : Addr) (u : HO), (fun _ => none : Hp) b = some u → False := fun b u z => by cases z
    exact go (fun _ => none) (fun _ => .inl rfl) (.inr ⟨_, vs.toArray, _, hk, rfl, rfl, rfl, by rw [List.size_toArray, lv]; exact hl, by simpa using rv⟩) (fun b u z => (no b u z).elim) (fun b z => absurd rfl z) fun z => absurd rfl z
  | none =>
    let Hs : Hp := fun b => if b = a then some (.frz { cls := .type "list", data := .seq vs.toArray } (.lst (ns.map V.int))) else none
    have at_a : Hs a = some (.frz { cls := .type "list", data := .seq vs.toArray } (.lst (ns.map V.int))) := if_pos rfl
    have off : ∀ b, b ≠ a → Hs b = none := fun b h => if_neg h
    refine go Hs (fun b => ?_) (.inl (.inr ⟨_, at_a⟩)) (fun b u z => ?_) (fun b z => ?_) fun _ => hk
    · by_cases hb : b = a
      · exact .inr ⟨_, _, hb ▸ at_a⟩
      · exact .inl (off b hb)
    · by_cases hb : b = a
      · subst hb
        rw [at_a] at z
        cases z
        exact ⟨ha, by rw [List.length_map]; exact hl, vs, _, rv, ha⟩
      · rw [off b hb] at z
        cases z
    · by_cases hb : b = a
      · exact hb
      · exact absurd (off b hb) z

theorem sqL_noT {K : PySem.W.Frag} {H : Hp} {a : Addr} {xs : List V} (n : a ∉ tbA) (h : SqL K H a xs) : SqL K (noT H) a xs := by
  have e := noT_of (H := H) n
  rcases h with (h | ⟨o, h⟩) | h
  · exact .inl (.inl (e.trans h))
  · exact .inl (.inr ⟨o, e.trans h⟩)
  · exact .inr h
/-- the law's promise at its start -/
theorem law_sp {K : PySem.W.Frag} {F : Fs} {H : Hp} {a : Addr} {ns : List Int} {o : List D} {E : XK} (hsig : F.sig = [false]) (ho : F.sem [.sc ns] = some (.im (.bl true), o)) (hT : ∀ p ∈ TabL.T, H p.1 = some (.tbl #[])) (hA : a ∉ tbA) (hS : SqL K H a (ns.map V.int)) :
    spF K F [.ref a] H (fun v _ => v = .bl true) E := by
  have S : SR K ⟨noT H, noT H, fun _ => none, fun _ => none⟩ (noT H) H ([V.ref a].map some) (mkE 0 F.sig [.sc ns]) := by
    rw [hsig]
    refine ⟨rfl, fun _ _ => noT_some, fun i sl ov e1 e2 => ?_, fun i j p sl sl' ne e1 e2 m1 m2 e3 e4 => ?_, fun _ _ e _ => ⟨noT_some e, .inl rfl⟩, fun b ⟨j, h⟩ => (by cases h), fun b ⟨j, h⟩ => (by cases h), fun p hp => ⟨LamX.TabS.nil (hT p hp), noT_tab hp, noT_tab hp⟩⟩
    · cases i with
      | zero =>
        cases e1
        cases e2
        exact .im (.sc (sqL_noT hA hS))
      | succ i => cases e1
    · cases i with
      | zero =>
        cases e1
        cases m1
      | succ i => cases e1
  refine ⟨_, noT H, [.sc ns], o, .im (.bl true), rfl, rfl, S, by rw [hsig]; rfl, ho, fun B' H' v _ _ h => ?_⟩
  obtain ⟨_, r⟩ := h
  cases r
  rfl
end PD
namespace PD
variable [PD.TabL]
open PySem PySem.Spec PyProof.Rows L2

section
variable {α β : Type} {R : α → β → Prop}
theorem pr1 {a : α} {ys : List β} (h : Paired R [a] ys) : ∃ y, ys = [y] ∧ R a y := by
  cases h with
  | cons h t =>
    cases t
    exact ⟨_, rfl, h⟩
theorem pr2 {a b : α} {ys : List β} (h : Paired R [a, b] ys) : ∃ y z, ys = [y, z] ∧ R a y ∧ R b z := by
  cases h with
  | cons h t =>
    obtain ⟨z, rfl, h2⟩ := pr1 t
    exact ⟨_, _, rfl, h, h2⟩
end
section
variable {K : PySem.W.Frag} {A : Anc} {B H : Hp} {vs : L2.St} {env : Env}
/-- an answer that is no new thing -/
theorem VRp.im (S : SR K A B H vs env) {d : D} {v : V} (r : Rp K B d v) : VRp K A B H vs env (.im d) v := ⟨S, r⟩
theorem VRp.tup (S : SR K A B H vs env) {p : Addr} {xs : List V} {ds : List D} (hp : H p = none) (r : Rps K B ds xs) : ∃ B', Same B B' ∧ VRp K A B' (upd H p (.tup xs)) vs env (.im (.tup ds)) (.ref p) := by
  obtain ⟨S', s'⟩ := S.laidF (o := .tup xs) hp
  exact ⟨_, s', S', .tup upd_same (r.mono s')⟩
theorem VRp.lst (S : SR K A B H vs env) {p : Addr} {xs : List V} {ds : List D} (hp : H p = none) (r : Rps K B ds xs) : VRp K A B (upd H p (.lst xs)) vs env (.fr (.lst ds)) (.ref p) := S.push hp (.lst r)
end
theorem ok_app {x y : Str} (h : PyData.strOk x = true) (h' : PyData.strOk y = true) : PyData.strOk (x ++ y) = true := by
  show (x.cps ++ y.cps).all (· < 0x110000) = true
  rw [Array.all_append]
  exact Bool.and_eq_true_iff.mpr ⟨h, h'⟩
theorem ok_mem {x : Str} : PyData.strOk x = true ↔ ∀ c ∈ x.cps.toList, c < 0x110000 := by
  show x.cps.all (· < 0x110000) = true ↔ _
  rw [← Array.all_toList, List.all_eq_true]
  simp
theorem ok_sub {x : Str} {l : List Nat} (h : PyData.strOk x = true) (hl : ∀ c ∈ l, c ∈ x.cps.toList) : PyData.strOk ⟨l.toArray⟩ = true := ok_mem.mpr fun c hc => ok_mem.mp h c (hl c (by simpa using hc))

def addD : List D → Option Vl
  | [.int i, .int j] => some (.im (.int (i + j)))
  | [.str x, .str y] => if small (x.length + y.length) = true then some (.im (.str (x ++ y))) else none
  | [.lst xs, .lst ys] => if small (xs.length + ys.length) = true then some (.fr (.lst (xs ++ ys))) else none
  | [.tup xs, .tup ys] => if small (xs.length + ys.length) = true then some (.im (.tup (xs ++ ys))) else none
  | _ => none
theorem op_addD {g : G0} : OpI g (binaryOp .Add) addD := by
  refine ⟨fun x y H Q => ((rI0 fun i j => .int (i + j)) x y H Q ∨ (∃ i j, x = .str i ∧ y = .str j ∧ i.length + j.length ≤ sizeLine ∧ Q (.str (i ++ j)) H)) ∨ (rCat x y H Q ∨ rCatA g.K x y H Q),
    fun c X hX => (op_add.or op_add_str).or (op_cat.or (by rw [← hX.eK]; exact op_catA)), fun A B H vs env xs ds res Q S rr e q => ?_⟩
  unfold addD at e
  split at e
  · cases e
    obtain ⟨x, y, rfl, r1, r2⟩ := pr2 rr
    exact .inl (.inl ⟨_, _, r1.int, r2.int, q B H _ (Same.refl _) (.im S (.int _))⟩)
  · split at e
    · rename_i hs
      cases e
      obtain ⟨x, y, rfl, r1, r2⟩ := pr2 rr
      obtain ⟨e1, o1⟩ := r1.str
      obtain ⟨e2, o2⟩ := r2.str
      exact .inl (.inr ⟨_, _, e1, e2, of_decide_eq_true hs, q B H _ (Same.refl _) (.im S (.str _ (ok_app o1 o2)))⟩)
    · cases e
  · split at e
    · rename_i hs
      cases e
      obtain ⟨x, y, rfl, r1, r2⟩ := pr2 rr
      obtain ⟨a, us, rfl, ha, ra⟩ := r1.lst S.same
      obtain ⟨b, ws, rfl, hb, rb⟩ := r2.lst S.same
      exact .inr (.inl ⟨_, _, _, _, rfl, rfl, ha, hb, by rw [← ra.length, ← rb.length]; exact of_decide_eq_true hs, fun p hp => q B _ _ (Same.refl _) (.lst S hp (ra.app rb))⟩)
    · cases e
  · split at e
    · rename_i ts us hs
      cases e
      obtain ⟨x, y, rfl, r1, r2⟩ := pr2 rr
      obtain ⟨a, us, rfl, ha, ta, ra⟩ := r1.tup S.same
      obtain ⟨b, ws, rfl, hb, tb, rb⟩ := r2.tup S.same
      refine .inr (.inr ⟨a, b, us, ws, rfl, rfl, .of ha, .of hb, by rw [← ra.length, ← rb.length]; exact of_decide_eq_true hs, fun z => ?_, fun _ z => ?_, fun _ z p hp => ?_⟩)
      · subst z
        cases ra
        rw [List.nil_append] at q
        exact q B H _ (Same.refl _) (.im S (.tup tb rb))
      · subst z
        cases rb
        rw [List.append_nil] at q
        exact q B H _ (Same.refl _) (.im S (.tup ta ra))
      · obtain ⟨B', s', v'⟩ := VRp.tup S hp (ra.app rb)
        exact q B' _ _ s' v'
    · cases e
  · cases e
def subD : List D → Option Vl
  | [.int i, .int j] => some (.im (.int (i - j)))
  | _ => none
theorem op_subD {g : G0} : OpI g (binaryOp .Sub) subD := by
  refine ⟨_, fun c X hX => op_sub, fun A B H vs env xs ds res Q S rr e q => ?_⟩
  unfold subD at e
  split at e
  · cases e
    obtain ⟨x, y, rfl, r1, r2⟩ := pr2 rr
    exact ⟨_, _, r1.int, r2.int, q B H _ (Same.refl _) (.im S (.int _))⟩
  · cases e
def s64 (i : Int) : Bool := decide (-(2 ^ 64) < i) && decide (i < 2 ^ 64)
theorem s64_ok {i : Int} (h : s64 i = true) : -(2 ^ 64) < i ∧ i < 2 ^ 64 := by
  have h := Bool.and_eq_true_iff.mp h
  exact ⟨of_decide_eq_true h.1, of_decide_eq_true h.2⟩
def in63 (k : Int) : Bool := decide (-(2 ^ 63) ≤ k) && decide (k < 2 ^ 63)
theorem in63_ok {i : Int} (h : in63 i = true) : -(2 ^ 63) ≤ i ∧ i < 2 ^ 63 := by
  have h := Bool.and_eq_true_iff.mp h
  exact ⟨of_decide_eq_true h.1, of_decide_eq_true h.2⟩
/-- a text k times -/
def timesS (x : Str) (k : Nat) : Str := ⟨((List.replicate k x.cps.toList).flatten).toArray⟩
def mulD : List D → Option Vl
  | [.int i, .int j] => if (s64 i || s64 j) = true then some (.im (.int (i * j))) else none
  | [.str x, .int k] => if (decide (1 < k) && decide (k < 1000) && small (x.length * 1000)) = true then some (.im (.str (timesS x k.toNat))) else none
  | [.lst xs, .int k] => if (in63 k && small (xs.length * k.toNat)) = true then some (.fr (.lst (List.replicate k.toNat xs).flatten)) else none
  | [.tup xs, .int k] => if (!xs.isEmpty && decide (2 ≤ k) && decide (k ≤ 1000) && decide (xs.length ≤ 1000)) = true then some (.im (.tup (List.replicate k.toNat xs).flatten)) else none
  | _ => none
theorem rep_fold : ∀ (k : Nat) (a acc : Array Nat), (List.replicate k a).foldl (· ++ ·) acc = acc ++ ((List.replicate k a.toList).flatten).toArray
  | 0, a, acc => by simp
  | k + 1, a, acc => by
    rw [List.replicate_succ, List.replicate_succ, List.foldl_cons, rep_fold k a, List.flatten_cons]
    rw [Array.append_assoc]
    congr 1
    apply Array.ext'
    simp
def rRepS : R2 := fun x y H Q => ∃ z k, x = .str z ∧ y = .int k ∧ 1 < k ∧ k < 1000 ∧ z.length * 1000 ≤ sizeLine ∧ Q (.str (timesS z k.toNat)) H
theorem op_repS {X : Cx} : OpR X (binaryOp .Mult) rRepS := by
  intro pins s σ H x y v u Q I rx ry h
  obtain ⟨z, k, rfl, rfl, h1, h2, hz, q⟩ := h
  obtain ⟨t, rfl⟩ := rx
  obtain ⟨t', rfl⟩ := ry
  have zl : z.length * k.toNat ≤ sizeLine := Nat.le_trans (Nat.mul_le_mul_left _ (by omega)) hz
  have e0 : timesS z k.toNat = ⟨(List.replicate k.toNat z.cps).foldl (· ++ ·) #[]⟩ := by
    rw [rep_fold]
    simp [timesS]
  have fits : (timesS z k.toNat).length ≤ sizeLine := by
    have : (timesS z k.toNat).length = k.toNat * z.length := by
      show ((List.replicate k.toNat z.cps.toList).flatten).toArray.size = _
      simp [Str.length]
    rw [this, Nat.mul_comm]
    exact zl
  refine PySem.P.mul_str (by rw [Bool.or_eq_false_iff]; exact ⟨decide_eq_false (by omega), decide_eq_false (by omega)⟩) (fun _ _ => ?_) (fun _ _ => ?_) ?_
  · have h9 : sizeLine = 16777216 := rfl
    have h3 : (1000 : Int) ≤ 9223372036854775807 / 1000 := by decide
    have h5 : (2 : Int) ^ 63 - 1 = 9223372036854775807 := by decide
    rw [h5]
    have h6 : (z.length : Int) ≤ 16777 := by omega
    have h7 : (16777 : Int) ≤ 9223372036854775807 / k := by
      rw [Int.le_ediv_iff_mul_le (by omega)]
      have : (16777 : Int) * k ≤ 16777 * 1000 := Int.mul_le_mul_of_nonneg_left (by omega) (by decide)
      omega
    omega
  · exact decide_eq_false (by omega)
  · rw [if_neg (by omega)]
    split
    · rename_i hc
      rcases Bool.or_eq_true_iff.mp hc with hc | hc
      · have : k = 1 := by simpa using hc
        omega
      · have hz0 : z.length = 0 := by simpa using hc
        have : timesS z k.toNat = z := by
          have : z = ⟨#[]⟩ := by
            obtain ⟨c⟩ := z
            have : c = #[] := by simpa [Str.length] using hz0
            rw [this]
          rw [this]
          simp [timesS]
        rw [this] at q
        exact ⟨.str z, H, I, ⟨_, rfl⟩, q⟩
    · rw [← e0]
      exact ⟨fits, ⟨.str _, H, I.tok _, ⟨_, rfl⟩, q⟩⟩
theorem ok_times {x : Str} {k : Nat} (h : PyData.strOk x = true) : PyData.strOk (timesS x k) = true := ok_sub h fun c hc => by
  obtain ⟨l, h1, h2⟩ := List.mem_flatten.mp hc
  rw [(List.mem_replicate.mp h1).2] at h2
  exact h2
theorem op_mulD {g : G0} : OpI g (binaryOp .Mult) mulD := by
  refine ⟨fun x y H Q => ((rI CMul fun i j => .int (i * j)) x y H Q ∨ rRepS x y H Q) ∨ (rRep x y H Q ∨ rRepT g.K x y H Q),
    fun c X hX => (op_mul.or op_repS).or (op_rep.or (by rw [← hX.eK]; exact op_repT)), fun A B H vs env xs ds res Q S rr e q => ?_⟩
  unfold mulD at e
  split at e
  · split at e
    · rename_i hs
      cases e
      obtain ⟨x, y, rfl, r1, r2⟩ := pr2 rr
      have hs := Bool.or_eq_true_iff.mp hs
      exact .inl (.inl ⟨_, _, r1.int, r2.int, hs.elim (fun z => .inl (s64_ok z)) (fun z => .inr (s64_ok z)), q B H _ (Same.refl _) (.im S (.int _))⟩)
    · cases e
  · split at e
    · rename_i hs
      cases e
      obtain ⟨x, y, rfl, r1, r2⟩ := pr2 rr
      simp only [Bool.and_eq_true, decide_eq_true_eq] at hs
      obtain ⟨e1, o1⟩ := r1.str
      exact .inl (.inr ⟨_, _, e1, r2.int, hs.1.1, hs.1.2, of_decide_eq_true hs.2, q B H _ (Same.refl _) (.im S (.str _ (ok_times o1)))⟩)
    · cases e
  · split at e
    · rename_i hs
      cases e
      obtain ⟨x, y, rfl, r1, r2⟩ := pr2 rr
      have hs := Bool.and_eq_true_iff.mp hs
      obtain ⟨a, us, rfl, ha, ra⟩ := r1.lst S.same
      obtain ⟨g1, g2⟩ := in63_ok hs.1
      exact .inr (.inl ⟨_, _, _, rfl, r2.int, ha, g1, g2, by rw [← ra.length]; exact of_decide_eq_true hs.2, fun p hp => q B _ _ (Same.refl _) (.lst S hp (ra.repl _))⟩)
    · cases e
  · split at e
    · rename_i hs
      cases e
      obtain ⟨x, y, rfl, r1, r2⟩ := pr2 rr
      simp only [Bool.and_eq_true, decide_eq_true_eq] at hs
      obtain ⟨a, us, rfl, ha, ta, ra⟩ := r1.tup S.same
      have ne : us ≠ [] := fun z => by
        subst z
        cases ra
        exact absurd hs.1.1.1 (by simp)
      refine .inr (.inr ⟨a, _, us, rfl, r2.int, .of ha, ne, hs.1.1.2, hs.1.2, by rw [← ra.length]; exact hs.2, fun p hp => ?_⟩)
      obtain ⟨B', s', v'⟩ := VRp.tup S hp (ra.repl _)
      exact q B' _ _ s' v'
    · cases e
  · cases e
def divD : List D → Option Vl
  | [.int i, .int j] => if (decide (j ≠ 0) && decide (j.natAbs < 1073741824)) = true then some (.im (.int (i.fdiv j))) else none
  | _ => none
theorem op_divD {g : G0} : OpI g (binaryOp .FloorDiv) divD := by
  refine ⟨_, fun c X hX => op_fdivN, fun A B H vs env xs ds res Q S rr e q => ?_⟩
  unfold divD at e
  split at e
  · split at e
    · rename_i hs
      cases e
      obtain ⟨x, y, rfl, r1, r2⟩ := pr2 rr
      have hs := Bool.and_eq_true_iff.mp hs
      exact ⟨_, _, r1.int, r2.int, ⟨of_decide_eq_true hs.1, of_decide_eq_true hs.2⟩, q B H _ (Same.refl _) (.im S (.int _))⟩
    · cases e
  · cases e
def modD : List D → Option Vl
  | [.int i, .int j] => if decide (j ≠ 0) = true then some (.im (.int (i.fmod j))) else none
  | _ => none
theorem op_modD {g : G0} : OpI g (binaryOp .Mod) modD := by
  refine ⟨_, fun c X hX => op_modN, fun A B H vs env xs ds res Q S rr e q => ?_⟩
  unfold modD at e
  split at e
  · split at e
    · rename_i hs
      cases e
      obtain ⟨x, y, rfl, r1, r2⟩ := pr2 rr
      exact ⟨_, _, r1.int, r2.int, of_decide_eq_true hs, q B H _ (Same.refl _) (.im S (.int _))⟩
    · cases e
  · cases e
def powD : List D → Option Vl
  | [.int i, .int j] => if (decide (0 ≤ j) && decide (j ≤ 1000000) && decide (i.natAbs < 2 ^ 64)) = true then some (.im (.int (i ^ j.toNat))) else none
  | _ => none
theorem op_powD {g : G0} : OpI g (binaryOp .Pow) powD := by
  refine ⟨_, fun c X hX => op_pow, fun A B H vs env xs ds res Q S rr e q => ?_⟩
  unfold powD at e
  split at e
  · split at e
    · rename_i hs
      cases e
      obtain ⟨x, y, rfl, r1, r2⟩ := pr2 rr
      simp only [Bool.and_eq_true, decide_eq_true_eq] at hs
      exact ⟨_, _, r1.int, r2.int, ⟨hs.1.1, hs.1.2, hs.2⟩, q B H _ (Same.refl _) (.im S (.int _))⟩
    · cases e
  · cases e
def negD : List D → Option Vl
  | [.int i] => some (.im (.int (-i)))
  | _ => none
theorem un_negD {g : G0} : UnI g (unaryOp .USub) negD := by
  refine ⟨_, fun c X hX => un_neg, fun A B H vs env xs ds res Q S rr e q => ?_⟩
  unfold negD at e
  split at e
  · cases e
    obtain ⟨x, rfl, r1⟩ := pr1 rr
    exact ⟨_, r1.int, q B H _ (Same.refl _) (.im S (.int _))⟩
  · cases e
end PD
namespace PD
variable [PD.TabL]
open PySem PySem.Spec PyProof.Rows L2

mutual
def D.py : D → PyData
  | .non => .none
  | .bl b => .bool b
  | .int i => .int i
  | .str x => .str x
  | .tup ds => .tuple (pys ds)
  | .lst ds => .list (pys ds)
  | .dk _ => .none
  | .dt _ => .none
  | .kf _ => .none
  | .tf _ => .none
  | .ex _ _ _ => .none
  | .cl _ => .none
  | .nt _ => .none
  | .kt _ => .none
  | .sc _ => .none
  | .fe => .none
  | .ty _ => .none
  | .txt _ => .none
  | .tp ds => .tuple (pys ds)
def pys : List D → List PyData
  | [] => []
  | d :: ds => d.py :: pys ds
end
mutual
def D.isPy : D → Bool
  | .non => true
  | .bl _ => true
  | .int _ => true
  | .str _ => true
  | .tup ds => arePy ds
  | .lst ds => arePy ds
  | .dk _ => false
  | .dt _ => false
  | .kf _ => false
  | .tf _ => false
  | .ex _ _ _ => false
  | .cl _ => false
  | .nt _ => false
  | .kt _ => false
  | .sc _ => false
  | .fe => false
  | .ty _ => false
  | .txt _ => false
  | .tp ds => arePy ds
def arePy : List D → Bool
  | [] => true
  | d :: ds => d.isPy && arePy ds
end
theorem pys_map : ∀ ds : List D, pys ds = ds.map D.py
  | [] => rfl
  | d :: ds => by
    show d.py :: pys ds = _
    rw [pys_map ds]
    rfl
theorem arePy_all : ∀ ds : List D, arePy ds = ds.all D.isPy
  | [] => rfl
  | d :: ds => by
    show (d.isPy && arePy ds) = _
    rw [arePy_all ds]
    rfl
section
variable {K : PySem.W.Frag} {B H : Hp}
mutual
theorem Rp.dp (s : Same B H) : ∀ {d : D} {v : V}, d.isPy = true → Rp K B d v → Dp K H v d.py
  | _, _, _, .non => by simp only [D.py]; exact .non
  | _, _, _, .bl b => by simp only [D.py]; exact .bl b
  | _, _, _, .int i => by simp only [D.py]; exact .int i
  | _, _, _, .str x h => by simp only [D.py]; exact .str x
  | _, _, n, .tup h r => by
    simp only [D.py]
    exact .tup (h.same s).sq (Rps.dp s (by simpa [D.isPy] using n) r)
  | _, _, n, .lst h r => by
    simp only [D.py]
    exact .lst (.of (s _ _ h)) (Rps.dp s (by simpa [D.isPy] using n) r)
  | _, _, n, .dk _ _ _ => by simp [D.isPy] at n
  | _, _, n, .dt _ _ _ => by simp [D.isPy] at n
  | _, _, n, .kf _ _ _ => by simp [D.isPy] at n
  | _, _, n, .tf _ _ _ => by simp [D.isPy] at n
  | _, _, n, .ex _ _ _ => by simp [D.isPy] at n
  | _, _, n, .cl _ => by simp [D.isPy] at n
  | _, _, n, .nt _ => by simp [D.isPy] at n
  | _, _, n, .kt _ _ => by simp [D.isPy] at n
  | _, _, n, .sc _ => by simp [D.isPy] at n
  | _, _, n, .fe _ => by simp [D.isPy] at n
  | _, _, n, .ty _ => by simp [D.isPy] at n
  | _, _, n, .txt _ => by simp [D.isPy] at n
  | _, _, n, .tp h _ r => by
    simp only [D.py]
    exact .tup (.inl (.inr ⟨_, s _ _ h⟩)) (Rps.dp s (by simpa [D.isPy] using n) r)
theorem Rps.dp (s : Same B H) : ∀ {ds : List D} {vs : List V}, arePy ds = true → Rps K B ds vs → DpAll K H vs (pys ds)
  | _, _, _, .nil => by simp only [pys]; exact .nil
  | d :: ds, _, n, .cons h r => by
    have n : d.isPy = true ∧ arePy ds = true := by simpa [arePy] using n
    simp only [pys]
    exact .cons (Rp.dp s n.1 h) (Rps.dp s n.2 r)
end
mutual
theorem Rp.lay : ∀ {d : D} {v : V}, Rp K B d v → d.py.canLay0 = true
  | _, _, .non => by simp [D.py, PyData.canLay0]
  | _, _, .bl b => by simp [D.py, PyData.canLay0]
  | _, _, .int i => by simp [D.py, PyData.canLay0]
  | _, _, .str x h => by simpa [D.py, PyData.canLay0] using h
  | _, _, .tup h r => by simpa [D.py, PyData.canLay0] using Rps.lay r
  | _, _, .lst h r => by simpa [D.py, PyData.canLay0] using Rps.lay r
  | _, _, .dk _ _ _ => by simp [D.py, PyData.canLay0]
  | _, _, .dt _ _ _ => by simp [D.py, PyData.canLay0]
  | _, _, .kf _ _ _ => by simp [D.py, PyData.canLay0]
  | _, _, .tf _ _ _ => by simp [D.py, PyData.canLay0]
  | _, _, .ex _ _ _ => by simp [D.py, PyData.canLay0]
  | _, _, .cl _ => by simp [D.py, PyData.canLay0]
  | _, _, .nt _ => by simp [D.py, PyData.canLay0]
  | _, _, .kt _ _ => by simp [D.py, PyData.canLay0]
  | _, _, .sc _ => by simp [D.py, PyData.canLay0]
  | _, _, .fe _ => by simp [D.py, PyData.canLay0]
  | _, _, .ty _ => by simp [D.py, PyData.canLay0]
  | _, _, .txt _ => by simp [D.py, PyData.canLay0]
  | _, _, .tp _ _ r => by simpa [D.py, PyData.canLay0] using Rps.lay r
theorem Rps.lay : ∀ {ds : List D} {vs : List V}, Rps K B ds vs → PyData.canLayAll0 (pys ds) = true
  | _, _, .nil => by simp [pys, PyData.canLayAll0]
  | _, _, .cons h r => by simp [pys, PyData.canLayAll0, Rp.lay h, Rps.lay r]
end
theorem Rr.dp {d : D} {v : V} (s : Same B H) (n : d.isPy = true) (h : Rr K B H d v) : Dp K H v d.py := by
  cases h with
  | fz r => exact r.dp s n
  | ct c =>
    rename_i p
    generalize e : H p = o at c
    cases c with
    | lst r =>
      simp only [D.py]
      exact .lst (.of e) (r.dp s (by simpa [D.isPy] using n))
    | dk _ _ => simp [D.isPy] at n
    | dt _ _ => simp [D.isPy] at n
theorem Rr.lay {d : D} {v : V} (h : Rr K B H d v) : d.py.canLay0 = true := by
  cases h with
  | fz r => exact r.lay
  | ct c =>
    rename_i p
    generalize e : H p = o at c
    cases c with
    | lst r => simpa [D.py, PyData.canLay0] using r.lay
    | dk _ _ => simp [D.py, PyData.canLay0]
    | dt _ _ => simp [D.py, PyData.canLay0]
end
/-- no deeper than n -/
def depB (n : Nat) (d : D) : Bool := decide (d.py.depth ≤ n)

def eqB (d e : D) : Bool := PyData.eqv d.py e.py
theorem Rr.txt {K : PySem.W.Frag} {B H : Hp} {x : Str} {v : V} (h : Rr K B H (.txt x) v) : v = .str x := by
  cases h with
  | fz r => cases r; rfl
  | ct c =>
    rename_i p
    generalize e : H p = o at c
    cases c
def eqD : List D → Option Vl
  | [.txt x, .txt y] => some (.im (.bl (decide (x = y))))
  | [d, e] => if (d.isPy && e.isPy && (depB 64 d || depB 64 e)) = true then some (.im (.bl (eqB d e))) else none
  | _ => none
def neD : List D → Option Vl
  | [.txt x, .txt y] => some (.im (.bl (!decide (x = y))))
  | [d, e] => if (d.isPy && e.isPy && (depB 64 d || depB 64 e)) = true then some (.im (.bl (!eqB d e))) else none
  | _ => none
def rEqA (K : PySem.W.Frag) : R2 := fun x y H Q => ∃ d e, Dp K H x d ∧ Dp K H y e ∧ d.canLay0 = true ∧ e.canLay0 = true ∧ min d.depth e.depth ≤ 64 ∧ Q (.bl (PyData.eqv d e)) H
def rNeA (K : PySem.W.Frag) : R2 := fun x y H Q => ∃ d e, Dp K H x d ∧ Dp K H y e ∧ d.canLay0 = true ∧ e.canLay0 = true ∧ min d.depth e.depth ≤ 64 ∧ Q (.bl (!PyData.eqv d e)) H
theorem op_eqA {X : Cx} (hu : X.A.units + 64 < cLine) : OpR X (compareOp .Eq) (rEqA X.K) := by
  intro pins s σ H x y v u Q I rx ry h
  obtain ⟨d, e, hd, he, sd, se, hm, q⟩ := h
  obtain ⟨as, r1⟩ := Dp.reads I d x v hd rx
  obtain ⟨bs, r2⟩ := Dp.reads I e y u he ry
  exact SeqAt.compareEq_reads r1 r2 sd se (by omega) ⟨.bl _, H, I, rfl, q⟩
theorem op_neA {X : Cx} (hu : X.A.units + 64 < cLine) : OpR X (compareOp .NotEq) (rNeA X.K) := by
  intro pins s σ H x y v u Q I rx ry h
  obtain ⟨d, e, hd, he, sd, se, hm, q⟩ := h
  obtain ⟨as, r1⟩ := Dp.reads I d x v hd rx
  obtain ⟨bs, r2⟩ := Dp.reads I e y u he ry
  exact SeqAt.compareNe_reads r1 r2 sd se (by omega) ⟨.bl _, H, I, rfl, q⟩
theorem dep_min {d e : D} (h : (depB 64 d || depB 64 e) = true) : min d.py.depth e.py.depth ≤ 64 := by
  rcases Bool.or_eq_true_iff.mp h with h | h
  · have := of_decide_eq_true h
    omega
  · have := of_decide_eq_true h
    omega
theorem op_eqD' {g : G0} : OpI g (compareOp .Eq) eqD := by
  refine ⟨fun x y H Q => rEqA g.K x y H Q ∨ rEq x y H Q, fun c X hX => by rw [← hX.eK]; exact (op_eqA hX.room.units).or op_eq, fun A B H vs env xs ds res Q S rr e q => ?_⟩
  unfold eqD at e
  split at e
  · cases e
    obtain ⟨x, y, rfl, r1, r2⟩ := pr2 rr
    rw [r1.txt, r2.txt]
    refine .inr ⟨rfl, ?_⟩
    rw [show decide (V.str _ = V.str _) = decide _ from decide_eq_decide.mpr ⟨fun z => V.str.inj z, fun z => congrArg V.str z⟩]
    exact q B H _ (Same.refl _) (.im S (.bl _))
  · split at e
    · rename_i hs
      cases e
      obtain ⟨x, y, rfl, r1, r2⟩ := pr2 rr
      obtain ⟨hs, h3⟩ := Bool.and_eq_true_iff.mp hs
      obtain ⟨h1, h2⟩ := Bool.and_eq_true_iff.mp hs
      exact .inl ⟨_, _, r1.dp S.same h1, r2.dp S.same h2, r1.lay, r2.lay, dep_min h3, q B H _ (Same.refl _) (.im S (.bl _))⟩
    · cases e
  · cases e
theorem op_neD' {g : G0} : OpI g (compareOp .NotEq) neD := by
  refine ⟨fun x y H Q => rNeA g.K x y H Q ∨ rNe x y H Q, fun c X hX => by rw [← hX.eK]; exact (op_neA hX.room.units).or op_ne, fun A B H vs env xs ds res Q S rr e q => ?_⟩
  unfold neD at e
  split at e
  · cases e
    obtain ⟨x, y, rfl, r1, r2⟩ := pr2 rr
    rw [r1.txt, r2.txt]
    refine .inr ⟨rfl, ?_⟩
    rw [show decide (V.str _ = V.str _) = decide _ from decide_eq_decide.mpr ⟨fun z => V.str.inj z, fun z => congrArg V.str z⟩]
    exact q B H _ (Same.refl _) (.im S (.bl _))
  · split at e
    · rename_i hs
      cases e
      obtain ⟨x, y, rfl, r1, r2⟩ := pr2 rr
      obtain ⟨hs, h3⟩ := Bool.and_eq_true_iff.mp hs
      obtain ⟨h1, h2⟩ := Bool.and_eq_true_iff.mp hs
      exact .inl ⟨_, _, r1.dp S.same h1, r2.dp S.same h2, r1.lay, r2.lay, dep_min h3, q B H _ (Same.refl _) (.im S (.bl _))⟩
    · cases e
  · cases e

def ltStr (x y : Str) : Bool := decide (x.cps.toList < y.cps.toList)
def ltD : List D → Option Vl
  | [.int i, .int j] => some (.im (.bl (decide (i < j))))
  | [.str x, .str y] => some (.im (.bl (ltStr x y)))
  | _ => none
theorem op_ltD {g : G0} : OpI g (compareOp .Lt) ltD := by
  refine ⟨_, fun c X hX => op_lt.or op_lt_str, fun A B H vs env xs ds res Q S rr e q => ?_⟩
  unfold ltD at e
  split at e
  · cases e
    obtain ⟨x, y, rfl, r1, r2⟩ := pr2 rr
    exact .inl ⟨_, _, r1.int, r2.int, q B H _ (Same.refl _) (.im S (.bl _))⟩
  · cases e
    obtain ⟨x, y, rfl, r1, r2⟩ := pr2 rr
    exact .inr ⟨_, _, r1.str.1, r2.str.1, q B H _ (Same.refl _) (.im S (.bl _))⟩
  · cases e
def leD : List D → Option Vl
  | [.int i, .int j] => some (.im (.bl (decide (i ≤ j))))
  | _ => none
theorem op_leD {g : G0} : OpI g (compareOp .LtE) leD := by
  refine ⟨_, fun c X hX => op_le, fun A B H vs env xs ds res Q S rr e q => ?_⟩
  unfold leD at e
  split at e
  · cases e
    obtain ⟨x, y, rfl, r1, r2⟩ := pr2 rr
    exact ⟨_, _, r1.int, r2.int, q B H _ (Same.refl _) (.im S (.bl _))⟩
  · cases e
def gtD : List D → Option Vl
  | [.int i, .int j] => some (.im (.bl (decide (j < i))))
  | _ => none
theorem op_gtD {g : G0} : OpI g (compareOp .Gt) gtD := by
  refine ⟨_, fun c X hX => op_gt, fun A B H vs env xs ds res Q S rr e q => ?_⟩
  unfold gtD at e
  split at e
  · cases e
    obtain ⟨x, y, rfl, r1, r2⟩ := pr2 rr
    exact ⟨_, _, r1.int, r2.int, q B H _ (Same.refl _) (.im S (.bl _))⟩
  · cases e
def geD : List D → Option Vl
  | [.int i, .int j] => some (.im (.bl (decide (j ≤ i))))
  | _ => none
theorem op_geD {g : G0} : OpI g (compareOp .GtE) geD := by
  refine ⟨_, fun c X hX => op_ge, fun A B H vs env xs ds res Q S rr e q => ?_⟩
  unfold geD at e
  split at e
  · cases e
    obtain ⟨x, y, rfl, r1, r2⟩ := pr2 rr
    exact ⟨_, _, r1.int, r2.int, q B H _ (Same.refl _) (.im S (.bl _))⟩
  · cases e

def isD : List D → Option Vl
  | [d, .non] => match d with
    | .non => some (.im (.bl true))
    | _ => some (.im (.bl false))
  | [.bl a, .bl b] => some (.im (.bl (decide (a = b))))
  | _ => none
def D.isNon : D → Bool
  | .non => true
  | _ => false
theorem Rr.nonq {K : PySem.W.Frag} {B H : Hp} {d : D} {v : V} (h : Rr K B H d v) : decide (v = .non) = d.isNon := by
  cases h with
  | fz r => cases r <;> simp [D.isNon]
  | ct c =>
    rename_i p
    generalize e : H p = o at c
    cases c <;> simp [D.isNon]
theorem op_isD {g : G0} : OpI g (compareOp .Is) isD := by
  refine ⟨_, fun c X hX => op_isN.or op_isBl, fun A B H vs env xs ds res Q S rr e q => ?_⟩
  unfold isD at e
  split at e
  · rename_i d
    obtain ⟨x, y, rfl, r1, r2⟩ := pr2 rr
    refine .inl ⟨r2.non, ?_⟩
    rw [r1.nonq]
    cases d <;> (cases e; exact q B H _ (Same.refl _) (.im S (.bl _)))
  · cases e
    obtain ⟨x, y, rfl, r1, r2⟩ := pr2 rr
    exact .inr ⟨_, _, r1.bl, r2.bl, q B H _ (Same.refl _) (.im S (.bl _))⟩
  · cases e
def isnD : List D → Option Vl
  | [d, .non] => match d with
    | .non => some (.im (.bl false))
    | _ => some (.im (.bl true))
  | [.bl a, .bl b] => some (.im (.bl (!decide (a = b))))
  | _ => none
theorem op_isnD {g : G0} : OpI g (compareOp .IsNot) isnD := by
  refine ⟨_, fun c X hX => op_notN.or op_notBl, fun A B H vs env xs ds res Q S rr e q => ?_⟩
  unfold isnD at e
  split at e
  · rename_i d
    obtain ⟨x, y, rfl, r1, r2⟩ := pr2 rr
    refine .inl ⟨r2.non, ?_⟩
    rw [r1.nonq]
    cases d <;> (cases e; exact q B H _ (Same.refl _) (.im S (.bl _)))
  · cases e
    obtain ⟨x, y, rfl, r1, r2⟩ := pr2 rr
    exact .inr ⟨_, _, r1.bl, r2.bl, q B H _ (Same.refl _) (.im S (.bl _))⟩
  · cases e

def keyD : D → Option Key
  | .int i => some (.inl i)
  | .str x => some (.inr x)
  | _ => none
def keysD : List D → Option (List Key)
  | [] => some []
  | d :: ds => match keyD d, keysD ds with
    | some k, some ks => some (k :: ks)
    | _, _ => none
def getK {κ : Type} [DecidableEq κ] (es : List (κ × D)) (k : κ) : Option D := (es.find? fun e => decide (e.1 = k)).map (·.2)
section
variable {K : PySem.W.Frag} {B H : Hp}
theorem Rr.key {d : D} {v : V} {k : Key} (h : Rr K B H d v) (e : keyD d = some k) : v = kV k := by
  cases d with
  | int i =>
    cases e
    exact h.int
  | str x =>
    cases e
    exact h.str.1
  | _ => cases e
theorem Rps.keys : ∀ {ds : List D} {vs : List V} {ks : List Key}, Rps K B ds vs → keysD ds = some ks → vs = ks.map kV
  | _, _, ks, .nil, e => by
    cases e
    rfl
  | d :: ds, v :: vs, ks, .cons h r, e => by
    unfold keysD at e
    split at e
    · rename_i k ks' h1 h2
      cases e
      rw [Rr.key (H := B) (.fz h) h1, Rps.keys r h2]
      rfl
    · cases e
theorem getK_val {κ : Type} [DecidableEq κ] {k : κ} : ∀ {es : List (κ × D)} {kvs : List (κ × V)}, es.map (·.1) = kvs.map (·.1) → Rps K B (es.map (·.2)) (kvs.map (·.2)) →
    (∀ d, getK es k = some d → ∃ v, valV kvs k = some v ∧ Rp K B d v) ∧ (getK es k = none → valV kvs k = none)
  | [], [], _, _ => ⟨fun d h => by simp [getK] at h, fun _ => rfl⟩
  | [], _ :: _, e, _ => by simp at e
  | _ :: _, [], e, _ => by simp at e
  | p :: es, q :: kvs, e, r => by
    have e1 : p.1 = q.1 ∧ es.map (·.1) = kvs.map (·.1) := by simpa using e
    cases r with
    | cons r1 r2 =>
      by_cases hk : p.1 = k
      · have g1 : getK (p :: es) k = some p.2 := by simp [getK, hk]
        have g2 : valV (q :: kvs) k = some q.2 := valV_pos (e1.1 ▸ hk)
        rw [g1, g2]
        exact ⟨fun d h => by cases h; exact ⟨_, rfl, r1⟩, fun h => by cases h⟩
      · have g1 : getK (p :: es) k = getK es k := by simp [getK, hk]
        have g2 : valV (q :: kvs) k = valV kvs k := valV_neg (fun z => hk (e1.1.trans z))
        rw [g1, g2]
        exact getK_val e1.2 r2
end

def flatD : D → Bool
  | .non => true
  | .bl _ => true
  | .int _ => true
  | .str _ => true
  | _ => false
section
variable {K : PySem.W.Frag} {B H : Hp}
theorem Rp.flat {d : D} {v : V} (h : Rp K B d v) (f : flatD d = true) : flatV v = true := by
  cases h <;> first | rfl | cases f
theorem Rp.eqf {d e : D} {v u : V} (h : Rp K B d v) (h' : Rp K B e u) (f : flatD d = true) (f' : flatD e = true) : eqV v u = eqB d e := by
  cases h <;> (first | (cases f; done) | (cases h' <;> first | (cases f'; done) | (simp [eqV, eqB, D.py, PyData.eqv])))
theorem Rr.flat {d : D} {v : V} (h : Rr K B H d v) (f : flatD d = true) : Rp K B d v := by
  cases h with
  | fz r => exact r
  | ct c =>
    rename_i p
    generalize e : H p = o at c
    cases c <;> cases f
theorem Rps.flats : ∀ {ds : List D} {vs : List V}, Rps K B ds vs → ds.all flatD = true → vs.all flatV = true
  | _, _, .nil, _ => rfl
  | d :: ds, _, .cons h r, f => by
    have f : flatD d = true ∧ ds.all flatD = true := by simpa using f
    rw [List.all_cons, h.flat f.1, Rps.flats r f.2]
    rfl
theorem Rps.inf {e : D} {u : V} (h' : Rp K B e u) (f' : flatD e = true) : ∀ {ds : List D} {vs : List V}, Rps K B ds vs → ds.all flatD = true → inV u vs = ds.any fun d => eqB d e
  | _, _, .nil, _ => rfl
  | d :: ds, v :: vs, .cons h r, f => by
    have f : flatD d = true ∧ ds.all flatD = true := by simpa using f
    have ih := Rps.inf h' f' r f.2
    unfold inV at ih ⊢
    rw [List.any_cons, List.any_cons, ih, h.eqf h' f.1 f']
end
theorem dget_kf {H : Hp} {a : Addr} {o : Obj} {kvs : List (Key × V)} {k : Key} (e : H a = some (.frz o (.dK kvs))) : DGet H a (kV k) (valV kvs k) := .inl ⟨kvs, k, .inr ⟨o, e⟩, rfl, rfl⟩
theorem dget_tf {H : Hp} {a b : Addr} {o : Obj} {kvs : List (List Key × V)} {k : List Key} (e : H a = some (.frz o (.dT kvs))) (eb : H b = some (.tup (k.map kV))) : DGet H a (.ref b) (valV kvs k) := .inr ⟨kvs, k, b, .inr ⟨o, e⟩, rfl, eb, rfl⟩
def depsB (n : Nat) (ds : List D) : Bool := decide (PyData.depthAll (pys ds) ≤ n)
def inB : List D → Option Bool
  | [.str x, .str y] => some (Txt.contains y x)
  | [d, .lst ds] => if (d.isPy && arePy ds && depB 64 d && depsB 63 ds) = true then some (ds.any fun z => eqB z d) else none
  | [d, .tup ds] => if (flatD d && ds.all flatD) = true then some (ds.any fun z => eqB z d) else none
  | [d, .dk es] => match keyD d with
    | some k => some (getK es k).isSome
    | none => none
  | [.tup ds, .dt es] => match keysD ds with
    | some k => some (getK es k).isSome
    | none => none
  | [d, .kf es] => match keyD d with
    | some k => some (getK es k).isSome
    | none => none
  | [.tup ds, .tf es] => match keysD ds with
    | some k => some (getK es k).isSome
    | none => none
  | _ => none
def inD (ds : List D) : Option Vl := (inB ds).map fun b => .im (.bl b)
def notInD (ds : List D) : Option Vl := (inB ds).map fun b => .im (.bl (!b))
def rInAny (K : PySem.W.Frag) (neg : Bool) : R2 := fun x y H Q =>
  ((∃ i j, x = .str i ∧ y = .str j ∧ Q (.bl (if neg then !Txt.contains j i else Txt.contains j i)) H) ∨ (∃ d ds, Dp K H x d ∧ Dp K H y (.list ds) ∧ SeqAt.shaped d = true ∧ SeqAt.shaped (.list ds) = true ∧ Q (.bl (if neg then !(ds.any fun z => PyData.eqv z d) else ds.any fun z => PyData.eqv z d)) H)) ∨
  (rIn K neg x y H Q ∨ ∃ a ov, y = .ref a ∧ DGet H a x ov ∧ Q (.bl (if neg then !ov.isSome else ov.isSome)) H)
theorem op_inAny {X : Cx} (hu : X.A.units + 65 < cLine) : OpR X (compareOp .In) (rInAny X.K false) := by
  refine (OpR.or ?_ ?_).or (OpR.or op_in_seq ?_)
  · exact op_in_str
  · exact op_inD hu
  · intro pins s σ H x y v u Q I rx ry h
    obtain ⟨a, ov, rfl, gd, q⟩ := h
    obtain rfl : u = Value.ref a := ry
    exact d_in (by omega) I gd rx fun s' I' => ⟨.bl _, H, I', rfl, q⟩
theorem op_notInAny {X : Cx} (hu : X.A.units + 65 < cLine) : OpR X (compareOp .NotIn) (rInAny X.K true) := by
  refine (OpR.or ?_ ?_).or (OpR.or op_notIn_seq ?_)
  · exact op_notIn_str
  · exact op_notInD hu
  · intro pins s σ H x y v u Q I rx ry h
    obtain ⟨a, ov, rfl, gd, q⟩ := h
    obtain rfl : u = Value.ref a := ry
    exact d_notIn (by omega) I gd rx fun s' I' => ⟨.bl _, H, I', rfl, q⟩
theorem pys_any (d : D) : ∀ ds : List D, ((pys ds).any fun z => PyData.eqv z d.py) = ds.any fun z => eqB z d
  | [] => rfl
  | e :: ds => by
    show (PyData.eqv e.py d.py || (pys ds).any _) = _
    rw [pys_any d ds]
    rfl
theorem inAny_ok {K : PySem.W.Frag} {A : Anc} {B H : Hp} {vs : L2.St} {env : Env} {neg : Bool} {xs : List V} {ds : List D} {b : Bool} {Q : VK} (S : SR K A B H vs env) (rr : Paired (Rr K B H) ds xs) (e : inB ds = some b)
    (q : Q (.bl (if neg = true then !b else b)) H) : on2 (rInAny K neg) xs H Q := by
  unfold inB at e
  split at e
  · cases e
    obtain ⟨x, y, rfl, r1, r2⟩ := pr2 rr
    exact .inl (.inl ⟨_, _, r1.str.1, r2.str.1, q⟩)
  · rename_i d es
    split at e
    · rename_i hs
      cases e
      simp only [Bool.and_eq_true] at hs
      obtain ⟨x, y, rfl, r1, r2⟩ := pr2 rr
      have h2 := r2.dp S.same (by simpa [D.isPy] using hs.1.1.2)
      have l2 := r2.lay
      simp only [D.py] at h2 l2
      refine .inl (.inr ⟨d.py, pys es, r1.dp S.same hs.1.1.1, h2, ?_, ?_, ?_⟩)
      · exact Bool.and_eq_true_iff.mpr ⟨r1.lay, hs.1.2⟩
      · refine Bool.and_eq_true_iff.mpr ⟨l2, decide_eq_true ?_⟩
        have := of_decide_eq_true hs.2
        simp only [PyData.depth]
        omega
      · rw [pys_any]
        exact q
    · cases e
  · rename_i d es _
    split at e
    · rename_i hs
      cases e
      have hs := Bool.and_eq_true_iff.mp hs
      obtain ⟨x, y, rfl, r1, r2⟩ := pr2 rr
      obtain ⟨a, us, rfl, ha, ta, ra⟩ := r2.tup S.same
      have r1' := r1.flat hs.1
      refine .inr (.inl ⟨a, us, rfl, .inr (.of ha), r1'.flat hs.1, ra.flats hs.2, ?_⟩)
      rw [Rps.inf r1' hs.1 ra hs.2]
      exact q
    · cases e
  · rename_i d es
    split at e
    · rename_i k hk
      cases e
      obtain ⟨x, y, rfl, r1, r2⟩ := pr2 rr
      obtain ⟨a, kvs, rfl, ha, he, hr⟩ := r2.dk S.same
      rw [r1.key hk]
      refine .inr (.inr ⟨a, valV kvs k, rfl, .k ha, ?_⟩)
      obtain ⟨g1, g2⟩ := getK_val (k := k) he hr
      cases hg : getK es k with
      | none =>
        rw [g2 hg]
        rw [hg] at q
        exact q
      | some d' =>
        obtain ⟨v', h1, _⟩ := g1 d' hg
        rw [h1]
        rw [hg] at q
        exact q
    · cases e
  · rename_i ks es
    split at e
    · rename_i k hk
      cases e
      obtain ⟨x, y, rfl, r1, r2⟩ := pr2 rr
      obtain ⟨a, kvs, rfl, ha, he, hr⟩ := r2.dt S.same
      obtain ⟨b, us, rfl, hb, tb, rb⟩ := r1.tup S.same
      rw [rb.keys hk] at hb
      refine .inr (.inr ⟨a, valV kvs k, rfl, .t ha hb, ?_⟩)
      obtain ⟨g1, g2⟩ := getK_val (k := k) he hr
      cases hg : getK es k with
      | none =>
        rw [g2 hg]
        rw [hg] at q
        exact q
      | some d' =>
        obtain ⟨v', h1, _⟩ := g1 d' hg
        rw [h1]
        rw [hg] at q
        exact q
    · cases e
  · rename_i d es
    split at e
    · rename_i k hk
      cases e
      obtain ⟨x, y, rfl, r1, r2⟩ := pr2 rr
      obtain ⟨a, ob, kvs, rfl, ha, he, hr⟩ := r2.kf S.same
      rw [r1.key hk]
      refine .inr (.inr ⟨a, valV kvs k, rfl, dget_kf ha, ?_⟩)
      obtain ⟨g1, g2⟩ := getK_val (k := k) he hr
      cases hg : getK es k with
      | none =>
        rw [g2 hg]
        rw [hg] at q
        exact q
      | some d' =>
        obtain ⟨v', h1, _⟩ := g1 d' hg
        rw [h1]
        rw [hg] at q
        exact q
    · cases e
  · rename_i ks es
    split at e
    · rename_i k hk
      cases e
      obtain ⟨x, y, rfl, r1, r2⟩ := pr2 rr
      obtain ⟨a, ob, kvs, rfl, ha, he, hr⟩ := r2.tf S.same
      obtain ⟨b, us, rfl, hb, tb, rb⟩ := r1.tup S.same
      rw [rb.keys hk] at hb
      refine .inr (.inr ⟨a, valV kvs k, rfl, dget_tf ha hb, ?_⟩)
      obtain ⟨g1, g2⟩ := getK_val (k := k) he hr
      cases hg : getK es k with
      | none =>
        rw [g2 hg]
        rw [hg] at q
        exact q
      | some d' =>
        obtain ⟨v', h1, _⟩ := g1 d' hg
        rw [h1]
        rw [hg] at q
        exact q
    · cases e
  · cases e
theorem room65 {k : Nat} {A : Around} (h : Room k A) : A.units + 65 < cLine := by
  have := h.un
  omega
theorem op_inD' {g : G0} : OpI g (compareOp .In) inD := by
  refine ⟨rInAny g.K false, fun c X hX => by rw [← hX.eK]; exact op_inAny (room65 hX.room), fun A B H vs env xs ds res Q S rr e q => ?_⟩
  unfold inD at e
  cases hb : inB ds with
  | none =>
    rw [hb] at e
    cases e
  | some b =>
    rw [hb] at e
    cases e
    exact inAny_ok S rr hb (by rw [if_neg Bool.false_ne_true]; exact q B H _ (Same.refl _) (.im S (.bl _)))
theorem op_notInD' {g : G0} : OpI g (compareOp .NotIn) notInD := by
  refine ⟨rInAny g.K true, fun c X hX => by rw [← hX.eK]; exact op_notInAny (room65 hX.room), fun A B H vs env xs ds res Q S rr e q => ?_⟩
  unfold notInD at e
  cases hb : inB ds with
  | none =>
    rw [hb] at e
    cases e
  | some b =>
    rw [hb] at e
    cases e
    exact inAny_ok S rr hb (by rw [if_pos rfl]; exact q B H _ (Same.refl _) (.im S (.bl _)))

def eChain (f h : List D → Option Vl) (ma mb mc : M Vl) : M Vl := bd ma fun ra => bd mb fun rb e => match cnt e ra.hold, cnt e rb.hold with
  | some da, some db => match f [da, db] with
    | some (.im (.bl true)) => bd mc (fun rc e2 => match cnt e2 rb.hold, cnt e2 rc.hold with
      | some db, some dc => match h [db, dc] with
        | some (.im d) => some (.im d, e2)
        | _ => none
      | _, _ => none) e
    | some (.im (.bl false)) => some (.im (.bl false), e)
    | _ => none
  | _, _ => none
section
variable {K : PySem.W.Frag} {A : Anc}
theorem sx_chain {r r' : R2} {ta tb tc : TE} {ma mb mc : M Vl} {f h : List D → Option Vl} (hf : PrS K (on2 r) f) (hh : PrS K (on2 r') h) (ha : SEX K A ta ma) (hb : SEX K A tb mb) (hc : SEX K A tc mc) : SEX K A (tChain r r' ta tb tc) (eChain f h ma mb mc) :=
  fun σ τ B H env pe env' res Q S hl e q => by
  obtain ⟨ra, e1, h1, e⟩ := bd_inv e
  obtain ⟨rb, e2, h2, e⟩ := bd_inv e
  refine ha σ τ B H env pe e1 ra _ S hl h1 fun B1 H1 x s1 hl1 hx => ?_
  obtain ⟨B2, s2, S2, hhx⟩ := hx.held
  refine hb σ τ B2 H1 e1 pe e2 rb _ S2 hl1 h2 fun B3 H3 y s3 hl3 hy => ?_
  obtain ⟨B4, s4, S4, hhy⟩ := hy.held
  have hhx := hhx.mono (s3.trans s4)
  split at e
  · rename_i da db hda hdb
    have rx := Hv.rr S4 hl3 hhx hda
    have ry := Hv.rr S4 hl3 hhy hdb
    split at e
    · rename_i hfe
      refine hf A B4 H3 (σ ++ τ) (e2 ++ pe) [x, y] [da, db] _ _ S4 (.cons rx (.cons ry .nil)) hfe fun B5 H5 z s5 hz => ?_
      obtain ⟨S5, rz⟩ := hz
      cases rz
      refine ⟨true, rfl, ?_⟩
      rw [if_pos rfl]
      obtain ⟨rc, e3, h3, e⟩ := bd_inv e
      refine hc σ τ B5 H5 e2 pe e3 rc _ S5 hl3 h3 fun B6 H6 w s6 hl6 hw => ?_
      obtain ⟨B7, s7, S7, hhw⟩ := hw.held
      split at e
      · rename_i db' dc hdb' hdc
        split at e
        · rename_i d hhe
          cases e
          have ry := Hv.rr S7 hl6 (hhy.mono ((s5.trans s6).trans s7)) hdb'
          have rw' := Hv.rr S7 hl6 hhw hdc
          exact hh A B7 H6 (σ ++ τ) (_ ++ pe) [y, w] [db', dc] _ _ S7 (.cons ry (.cons rw' .nil)) hhe fun B8 H8 v s8 hv => q B8 H8 v (((((((s1.trans s2).trans s3).trans s4).trans s5).trans s6).trans s7).trans s8) hl6 hv
        · cases e
      · cases e
    · rename_i hfe
      cases e
      refine hf A B4 H3 (σ ++ τ) (_ ++ pe) [x, y] [da, db] _ _ S4 (.cons rx (.cons ry .nil)) hfe fun B5 H5 z s5 hz => ?_
      obtain ⟨S5, rz⟩ := hz
      cases rz
      refine ⟨false, rfl, ?_⟩
      rw [if_neg Bool.false_ne_true]
      exact q B5 H5 _ ((((s1.trans s2).trans s3).trans s4).trans s5) hl3 ⟨S5, .bl _⟩
    · cases e
  · cases e
theorem ee_chain {g : G0} {c : Ct} {a b d : Expr} {pos : Pos} {ma mb mc : M Vl} {op op' : CmpOp} {f h : List D → Option Vl} (ho : OpI g (compareOp op) f) (ho' : OpI g (compareOp op') h) (ha : EE g c a ma) (hb : EE g c b mb) (hc : EE g c d mc) (hm : lastMarks [op, op'] [b, d] = false) :
    EE g c (.Compare a [op, op'] [b, d] pos) (eChain f h ma mb mc) := by
  obtain ⟨r, o1, o2⟩ := ho
  obtain ⟨r', o3, o4⟩ := ho'
  obtain ⟨t, h1, h2⟩ := ha
  obtain ⟨u, h3, h4⟩ := hb
  obtain ⟨v, h5, h6⟩ := hc
  exact ⟨_, fun X hX => pe_chain (o1 c X hX) (o3 c X hX) (h1 X hX) (h3 X hX) (h5 X hX) (hm := hm), fun A => sx_chain o2 o4 (h2 A) (h4 A) (h6 A)⟩
end
end PD
namespace PD
variable [PD.TabL]
open PySem PySem.Spec PyProof.Rows L2

def ixD : List D → Option Vl
  | [.lst ds, .int i] => (atI ds i).map .im
  | [.tup ds, .int i] => (atI ds i).map .im
  | [.sc ns, .int i] => (atI ns i).map fun n => .im (.int n)
  | [.str x, .int i] => if small x.length = true then (atI x.cps.toList i).map fun c => .im (.str ⟨#[c]⟩) else none
  | [.dk es, k] => match keyD k with
    | some k => (getK es k).map .im
    | none => none
  | [.dt es, .tup ks] => match keysD ks with
    | some k => (getK es k).map .im
    | none => none
  | [.kf es, k] => match keyD k with
    | some k => (getK es k).map .im
    | none => none
  | [.tf es, .tup ks] => match keysD ks with
    | some k => (getK es k).map .im
    | none => none
  | _ => none
def rIxDct : R2 := fun x y H Q => ∃ a v, x = .ref a ∧ DGet H a y (some v) ∧ Q v H
theorem ix_dct {X : Cx} (hu : X.A.units + 1 < cLine) : IxR X rIxDct := by
  intro value slice pins s σ H x y v u Q I rx ry h hs
  obtain ⟨a, w, rfl, gd, q⟩ := h
  cases rx
  exact tail_any (dict_typeIs I gd) PySem.F.slot_dict_getitem.lookup (d_getItem hu I gd ry fun w' s' I' rw' => ⟨w, H, I', rw', q⟩) hs
def rIxA (K : PySem.W.Frag) : R2 := fun x y H Q => (rIxL K x y H Q ∨ rIxT K x y H Q) ∨ (rIxS x y H Q ∨ rIxDct x y H Q)
theorem ix_any {X : Cx} (hu : X.A.units + 1 < cLine) : IxR X (rIxA X.K) := (ix_list.or ix_tup).or (ix_str.or (ix_dct hu))
section
variable {K : PySem.W.Frag} {A : Anc} {B H : Hp} {vs : L2.St} {env : Env}
theorem Rps.atI {ds : List D} {xs : List V} {i : Int} {d : D} (r : Rps K B ds xs) (h : L2.atI ds i = some d) : ∃ v, L2.atI xs i = some v ∧ Rp K B d v := by
  unfold L2.atI at h ⊢
  rw [← r.length]
  cases hj : ixN ds.length i with
  | none =>
    rw [hj] at h
    cases h
  | some j =>
    rw [hj] at h
    exact r.get h
theorem atI_mem {α : Type} {xs : List α} {i : Int} {x : α} (h : L2.atI xs i = some x) : x ∈ xs := by
  unfold L2.atI at h
  cases hj : ixN xs.length i with
  | none =>
    rw [hj] at h
    cases h
  | some j =>
    rw [hj] at h
    exact List.mem_of_getElem? h
theorem ix_ok {xs : List V} {ds : List D} {res : Vl} {Q : VK} (S : SR K A B H vs env) (rr : Paired (Rr K B H) ds xs) (e : ixD ds = some res) (q : ∀ B' H' v, Same B B' → VRp K A B' H' vs env res v → Q v H') : on2 (rIxA K) xs H Q := by
  unfold ixD at e
  split at e
  · rename_i es i
    cases hd : L2.atI es i with
    | none =>
      rw [hd] at e
      cases e
    | some d =>
      rw [hd] at e
      cases e
      obtain ⟨x, y, rfl, r1, r2⟩ := pr2 rr
      obtain ⟨a, us, rfl, ha, ra⟩ := r1.lst S.same
      obtain ⟨v, h1, h2⟩ := ra.atI hd
      exact .inl (.inl ⟨a, us, i, v, rfl, r2.int, .of ha, h1, q B H v (Same.refl _) (.im S h2)⟩)
  · rename_i es i
    cases hd : L2.atI es i with
    | none =>
      rw [hd] at e
      cases e
    | some d =>
      rw [hd] at e
      cases e
      obtain ⟨x, y, rfl, r1, r2⟩ := pr2 rr
      obtain ⟨a, us, rfl, ha, _, ra⟩ := r1.tup S.same
      obtain ⟨v, h1, h2⟩ := ra.atI hd
      exact .inl (.inr ⟨a, us, i, v, rfl, r2.int, .of ha, h1, q B H v (Same.refl _) (.im S h2)⟩)
  · rename_i ns i
    cases hd : L2.atI ns i with
    | none =>
      rw [hd] at e
      cases e
    | some n =>
      rw [hd] at e
      cases e
      obtain ⟨x, y, rfl, r1, r2⟩ := pr2 rr
      obtain ⟨a, rfl, ha⟩ := r1.sc S.same
      have h1 : L2.atI (ns.map V.int) i = some (.int n) := by
        unfold L2.atI at hd ⊢
        rw [List.length_map]
        cases hj : ixN ns.length i with
        | none =>
          rw [hj] at hd
          cases hd
        | some j =>
          rw [hj] at hd
          show (ns.map V.int)[j]? = _
          rw [List.getElem?_map, show ns[j]? = some n from hd]
          rfl
      exact .inl (.inl ⟨a, _, i, _, rfl, r2.int, ha, h1, q B H _ (Same.refl _) (.im S (.int n))⟩)
  · rename_i z i
    split at e
    · rename_i hs
      cases hd : L2.atI z.cps.toList i with
      | none =>
        rw [hd] at e
        cases e
      | some c =>
        rw [hd] at e
        cases e
        obtain ⟨x, y, rfl, r1, r2⟩ := pr2 rr
        obtain ⟨e1, o1⟩ := r1.str
        exact .inr (.inl ⟨z, i, c, e1, r2.int, of_decide_eq_true hs, hd, q B H _ (Same.refl _) (.im S (.str _ (ok_sub (l := [c]) o1 fun c' hc' => by
          rw [List.mem_singleton.mp hc']
          exact atI_mem hd)))⟩)
    · cases e
  · rename_i es kd
    split at e
    · rename_i k hk
      cases hd : getK es k with
      | none =>
        rw [hd] at e
        cases e
      | some d =>
        rw [hd] at e
        cases e
        obtain ⟨x, y, rfl, r1, r2⟩ := pr2 rr
        obtain ⟨a, kvs, rfl, ha, he, hr⟩ := r1.dk S.same
        rw [r2.key hk]
        obtain ⟨v, h1, h2⟩ := (getK_val (k := k) he hr).1 d hd
        have gd := DGet.k (k := k) ha
        rw [h1] at gd
        exact .inr (.inr ⟨a, v, rfl, gd, q B H v (Same.refl _) (.im S h2)⟩)
    · cases e
  · rename_i es ks
    split at e
    · rename_i k hk
      cases hd : getK es k with
      | none =>
        rw [hd] at e
        cases e
      | some d =>
        rw [hd] at e
        cases e
        obtain ⟨x, y, rfl, r1, r2⟩ := pr2 rr
        obtain ⟨a, kvs, rfl, ha, he, hr⟩ := r1.dt S.same
        obtain ⟨b, us, rfl, hb, tb, rb⟩ := r2.tup S.same
        rw [rb.keys hk] at hb
        obtain ⟨v, h1, h2⟩ := (getK_val (k := k) he hr).1 d hd
        have gd := DGet.t ha hb
        rw [h1] at gd
        exact .inr (.inr ⟨a, v, rfl, gd, q B H v (Same.refl _) (.im S h2)⟩)
    · cases e
  · rename_i es kd
    split at e
    · rename_i k hk
      cases hd : getK es k with
      | none =>
        rw [hd] at e
        cases e
      | some d =>
        rw [hd] at e
        cases e
        obtain ⟨x, y, rfl, r1, r2⟩ := pr2 rr
        obtain ⟨a, ob, kvs, rfl, ha, he, hr⟩ := r1.kf S.same
        rw [r2.key hk]
        obtain ⟨v, h1, h2⟩ := (getK_val (k := k) he hr).1 d hd
        have gd := dget_kf (k := k) ha
        rw [h1] at gd
        exact .inr (.inr ⟨a, v, rfl, gd, q B H v (Same.refl _) (.im S h2)⟩)
    · cases e
  · rename_i es ks
    split at e
    · rename_i k hk
      cases hd : getK es k with
      | none =>
        rw [hd] at e
        cases e
      | some d =>
        rw [hd] at e
        cases e
        obtain ⟨x, y, rfl, r1, r2⟩ := pr2 rr
        obtain ⟨a, ob, kvs, rfl, ha, he, hr⟩ := r1.tf S.same
        obtain ⟨b, us, rfl, hb, tb, rb⟩ := r2.tup S.same
        rw [rb.keys hk] at hb
        obtain ⟨v, h1, h2⟩ := (getK_val (k := k) he hr).1 d hd
        have gd := dget_tf ha hb
        rw [h1] at gd
        exact .inr (.inr ⟨a, v, rfl, gd, q B H v (Same.refl _) (.im S h2)⟩)
    · cases e
  · cases e
end
section
variable {g : G0} {c : Ct} {e a b : Expr} {es : List Expr} {pos p apos : Pos} {m ma mb : M Vl} {ms : M (List Vl)}
theorem ee_ix (h : EE g c a ma) (h' : EE g c b mb) (hs : PlainIx b) : EE g c (.Subscript a b pos) (eP ixD (cA ma (cA mb cN))) := by
  obtain ⟨t, h1, h2⟩ := h
  obtain ⟨u, h3, h4⟩ := h'
  refine ⟨tOp (rIxA g.K) t u, fun X hX => ?_, fun A => sx_op (fun A B H vs env xs ds res Q S rr e q => ix_ok S rr e q) (h2 A) (h4 A)⟩
  rw [← hX.eK]
  exact pe_ix (ix_any (hu_of hX.room)) (h1 X hX) (h3 X hX) hs
end

def cutD {α : Type} (ds : List α) (lo hi : Option Int) : List α := (ds.drop (HT.sIx ds.length 0 lo)).take (HT.sIx ds.length ds.length hi - HT.sIx ds.length 0 lo)
def slD (lo hi : Option Int) : D → Option Vl
  | .lst ds => some (.fr (.lst (cutD ds lo hi)))
  | .tup ds => some (.im (.tup (cutD ds lo hi)))
  | .sc ns => some (.fr (.lst ((cutD ns lo hi).map D.int)))
  | .str x => if small x.length = true then some (.im (.str (cutS x lo hi))) else none
  | _ => none
def rSlAny (K : PySem.W.Frag) : V → Option Int → Option Int → Hp → VK → Prop := fun x lo hi H Q => (rSlL K x lo hi H Q ∨ rSlA K x lo hi H Q) ∨ rSlS x lo hi H Q
theorem sl_any {X : Cx} : SlR X (rSlAny X.K) := (sl_list.or sl_tupA).or sl_str
section
variable {K : PySem.W.Frag} {A : Anc} {B H : Hp} {vs : L2.St} {env : Env}
theorem sl_ok {x : V} {d : D} {lo hi : Option Int} {res : Vl} {Q : VK} (S : SR K A B H vs env) (rr : Rr K B H d x) (e : slD lo hi d = some res) (q : ∀ B' H' v, Same B B' → VRp K A B' H' vs env res v → Q v H') : rSlAny K x lo hi H Q := by
  unfold slD at e
  split at e
  · cases e
    obtain ⟨a, us, rfl, ha, ra⟩ := rr.lst S.same
    refine .inl (.inl ⟨a, us, rfl, .of ha, fun p hp => q B _ _ (Same.refl _) (.lst S hp ?_)⟩)
    unfold cutV cutD
    rw [← ra.length]
    exact (ra.drop _).take _
  · rename_i ds
    cases e
    obtain ⟨a, us, rfl, ha, ta, ra⟩ := rr.tup S.same
    have rc : Rps K B (cutD ds lo hi) (cutV us lo hi) := by
      unfold cutV cutD
      rw [← ra.length]
      exact (ra.drop _).take _
    refine .inl (.inr ⟨a, us, rfl, .of ha, fun ⟨z1, z2⟩ => ?_, fun _ p hp => ?_⟩)
    · have e1 : cutD ds lo hi = ds := by
        unfold cutD
        rw [ra.length, z1, z2, List.drop_zero, Nat.sub_zero, ← ra.length, List.take_length]
      rw [e1] at q
      exact q B H _ (Same.refl _) (.im S (.tup ta ra))
    · obtain ⟨B', s', v'⟩ := VRp.tup S hp rc
      exact q B' _ _ s' v'
  · rename_i ns
    cases e
    obtain ⟨a, rfl, ha⟩ := rr.sc S.same
    refine .inl (.inl ⟨a, _, rfl, ha, fun p hp => q B _ _ (Same.refl _) (.lst S hp ?_)⟩)
    have e1 : cutV (ns.map V.int) lo hi = (cutD ns lo hi).map V.int := by
      unfold cutV cutD
      rw [List.length_map, List.map_take, List.map_drop]
    rw [e1]
    exact Rps.of_ints _
  · rename_i z
    split at e
    · rename_i hs
      cases e
      obtain ⟨e1, o1⟩ := rr.str
      exact .inr ⟨z, e1, of_decide_eq_true hs, q B H _ (Same.refl _) (.im S (.str _ (ok_sub o1 fun c hc => List.mem_of_mem_drop (List.mem_of_mem_take hc))))⟩
    · cases e
  · cases e
/-- a slice's end: left out, or a number -/
def SOX (K : PySem.W.Frag) (A : Anc) (t : TO) (m : M (Option Int)) : Prop := ∀ (σ τ : L2.St) (B H : Hp) (env pe env' : Env) (o : Option Int) (Q : Option Int → Hp → Prop), SR K A B H (σ ++ τ) (env ++ pe) → σ.length = env.length → m env = some (o, env') →
  (∀ B' H', Same B B' → σ.length = env'.length → SR K A B' H' (σ ++ τ) (env' ++ pe) → Q o H') → t σ H Q
def oN : M (Option Int) := rt none
def oS (m : M Vl) : M (Option Int) := bd m fun r e => match r with
  | .im (.int i) => some (some i, e)
  | _ => none
theorem so_none : SOX K A tNoPart oN := fun σ τ B H env pe env' o Q S hl e q => by
  cases e
  exact q B H (Same.refl _) hl S
theorem so_some {t : TE} {m : M Vl} (h : SEX K A t m) : SOX K A (tPart t) (oS m) := fun σ τ B H env pe env' o Q S hl e q => by
  obtain ⟨r, e1, h1, e⟩ := bd_inv e
  split at e
  · rename_i i
    cases e
    refine h σ τ B H env pe _ _ _ S hl h1 fun B1 H1 v s1 hl1 hv => ?_
    obtain ⟨S1, rr⟩ := hv
    cases rr
    exact ⟨i, rfl, q B1 H1 s1 hl1 S1⟩
  · cases e
def eSl (ma : M Vl) (lo hi : M (Option Int)) : M Vl := bd ma fun r => bd lo fun l => bd hi fun h e => match cnt e r.hold with
  | some d => match slD l h d with
    | some (.im d') => some (.im d', e)
    | some (.fr d') => some (.fr d', e)
    | _ => none
  | none => none
theorem sx_sl {t : TE} {tl th : TO} {ma : M Vl} {lo hi : M (Option Int)} (h : SEX K A t ma) (hl' : SOX K A tl lo) (hh : SOX K A th hi) : SEX K A (tSl (rSlAny K) t tl th) (eSl ma lo hi) := fun σ τ B H env pe env' res Q S hl e q => by
  obtain ⟨r, e1, h1, e⟩ := bd_inv e
  obtain ⟨l, e2, h2, e⟩ := bd_inv e
  obtain ⟨u, e3, h3, e⟩ := bd_inv e
  refine h σ τ B H env pe e1 r _ S hl h1 fun B1 H1 v s1 hl1 hv => ?_
  obtain ⟨B2, s2, S2, hhv⟩ := hv.held
  refine hl' σ τ B2 H1 e1 pe e2 l _ S2 hl1 h2 fun B3 H3 s3 hl3 S3 => ?_
  refine hh σ τ B3 H3 e2 pe e3 u _ S3 hl3 h3 fun B4 H4 s4 hl4 S4 => ?_
  split at e
  · rename_i d hd
    have rr := Hv.rr S4 hl4 (hhv.mono (s3.trans s4)) hd
    split at e
    · rename_i d' hs
      cases e
      exact sl_ok S4 rr hs fun B5 H5 w s5 hw => q B5 H5 w ((((s1.trans s2).trans s3).trans s4).trans s5) hl4 hw
    · rename_i d' hs
      cases e
      exact sl_ok S4 rr hs fun B5 H5 w s5 hw => q B5 H5 w ((((s1.trans s2).trans s3).trans s4).trans s5) hl4 hw
    · cases e
  · cases e
end
def EO (g : G0) (c : Ct) (e : Option Expr) (m : M (Option Int)) : Prop := ∃ t, (∀ X, Cok g c X → PO X e t) ∧ ∀ A, SOX g.K A t m
section
variable {g : G0} {c : Ct} {e a b : Expr} {es : List Expr} {pos p p2 apos : Pos} {m ma mb : M Vl} {ms : M (List Vl)}
theorem eo_none : EO g c none oN := ⟨_, fun _ _ => po_none, fun _ => so_none⟩
theorem eo_some (h : EE g c e m) : EO g c (some e) (oS m) := by
  obtain ⟨t, h1, h2⟩ := h
  exact ⟨_, fun X hX => po_some (h1 X hX), fun A => so_some (h2 A)⟩
theorem ee_sl {lo hi : Option Expr} {ml mh : M (Option Int)} (h : EE g c a ma) (hl : EO g c lo ml) (hh : EO g c hi mh) : EE g c (.Subscript a (.Slice lo hi none p2) pos) (eSl ma ml mh) := by
  obtain ⟨t, h1, h2⟩ := h
  obtain ⟨u, h3, h4⟩ := hl
  obtain ⟨v, h5, h6⟩ := hh
  refine ⟨tSl (rSlAny g.K) t u v, fun X hX => ?_, fun A => sx_sl (h2 A) (h4 A) (h6 A)⟩
  rw [← hX.eK]
  exact pe_slice sl_any (h1 X hX) (h3 X hX) (h5 X hX)
end

theorem CallR.or' {X : Cx} {f : Value} {r r' : List V → Hp → VK → Prop} (h : CallR X f r) (h' : CallR X f r') : CallR X f (fun xs H Q => r xs H Q ∨ r' xs H Q) := by
  intro pins s σ H xs us Q I rs q
  rcases q with q | q
  · exact h pins s σ H xs us Q I rs q
  · exact h' pins s σ H xs us Q I rs q
def lenD : List D → Option Vl
  | [.str x] => if small x.length = true then some (.im (.int x.length)) else none
  | [.lst ds] => some (.im (.int ds.length))
  | [.tup ds] => some (.im (.int ds.length))
  | [.sc ns] => some (.im (.int ns.length))
  | [.tp ds] => some (.im (.int ds.length))
  | _ => none
theorem ca_len {g : G0} : CaI g (.builtin "len") lenD := by
  refine ⟨fun xs H Q => ∃ x n, xs = [x] ∧ LenV g.K x H n ∧ Q (.int n) H, fun c X hX => by rw [← hX.eK]; exact call_len, fun A B H vs env xs ds res Q S rr e q => ?_⟩
  unfold lenD at e
  split at e
  · split at e
    · rename_i hs
      cases e
      obtain ⟨x, rfl, r1⟩ := pr1 rr
      obtain ⟨e1, _⟩ := r1.str
      exact ⟨x, _, rfl, by rw [e1]; exact ⟨of_decide_eq_true hs, rfl⟩, q B H _ (Same.refl _) (.im S (.int _))⟩
    · cases e
  · cases e
    obtain ⟨x, rfl, r1⟩ := pr1 rr
    obtain ⟨a, us, rfl, ha, ra⟩ := r1.lst S.same
    exact ⟨_, _, rfl, .inl ⟨us, .of ha, ra.length⟩, q B H _ (Same.refl _) (.im S (.int _))⟩
  · cases e
    obtain ⟨x, rfl, r1⟩ := pr1 rr
    obtain ⟨a, us, rfl, ha, _, ra⟩ := r1.tup S.same
    exact ⟨_, _, rfl, .inr ⟨us, .of ha, ra.length⟩, q B H _ (Same.refl _) (.im S (.int _))⟩
  · cases e
    obtain ⟨x, rfl, r1⟩ := pr1 rr
    obtain ⟨a, rfl, ha⟩ := r1.sc S.same
    exact ⟨_, _, rfl, .inl ⟨_, ha, by rw [List.length_map]⟩, q B H _ (Same.refl _) (.im S (.int _))⟩
  · cases e
    obtain ⟨x, rfl, r1⟩ := pr1 rr
    obtain ⟨a, o, us, rfl, ha, _, ra⟩ := r1.tp S.same
    exact ⟨_, _, rfl, .inr ⟨us, .inl (.inr ⟨_, ha⟩), ra.length⟩, q B H _ (Same.refl _) (.im S (.int _))⟩
  · cases e
def absD : List D → Option Vl
  | [.int i] => some (.im (.int (if i < 0 then -i else i)))
  | _ => none
theorem ca_abs {g : G0} : CaI g (.builtin "abs") absD := by
  refine ⟨_, fun c X hX => call_abs, fun A B H vs env xs ds res Q S rr e q => ?_⟩
  unfold absD at e
  split at e
  · cases e
    obtain ⟨x, rfl, r1⟩ := pr1 rr
    exact ⟨_, by rw [r1.int], q B H _ (Same.refl _) (.im S (.int _))⟩
  · cases e
def maxD : List D → Option Vl
  | [.int i, .int j] => some (.im (.int (if j > i then j else i)))
  | _ => none
theorem ca_max {g : G0} : CaI g (.builtin "max") maxD := by
  refine ⟨_, fun c X hX => call_max2 hX.calm, fun A B H vs env xs ds res Q S rr e q => ?_⟩
  unfold maxD at e
  split at e
  · cases e
    obtain ⟨x, y, rfl, r1, r2⟩ := pr2 rr
    exact ⟨_, _, by rw [r1.int, r2.int], q B H _ (Same.refl _) (.im S (.int _))⟩
  · cases e
def minD : List D → Option Vl
  | [.int i, .int j] => some (.im (.int (if j < i then j else i)))
  | _ => none
theorem ca_min {g : G0} : CaI g (.builtin "min") minD := by
  refine ⟨_, fun c X hX => call_min2 hX.calm, fun A B H vs env xs ds res Q S rr e q => ?_⟩
  unfold minD at e
  split at e
  · cases e
    obtain ⟨x, y, rfl, r1, r2⟩ := pr2 rr
    exact ⟨_, _, by rw [r1.int, r2.int], q B H _ (Same.refl _) (.im S (.int _))⟩
  · cases e
def intD : List D → Option Vl
  | [.int i] => some (.im (.int i))
  | [.bl b] => some (.im (.int (if b then 1 else 0)))
  | _ => none
theorem ca_int {g : G0} : CaI g (.type "int") intD := by
  refine ⟨_, fun c X hX => call_int1, fun A B H vs env xs ds res Q S rr e q => ?_⟩
  unfold intD at e
  split at e
  · cases e
    obtain ⟨x, rfl, r1⟩ := pr1 rr
    exact .inl ⟨_, by rw [r1.int], q B H _ (Same.refl _) (.im S (.int _))⟩
  · cases e
    obtain ⟨x, rfl, r1⟩ := pr1 rr
    exact .inr ⟨_, by rw [r1.bl], q B H _ (Same.refl _) (.im S (.int _))⟩
  · cases e
def blsD : List D → Option (List Bool)
  | [] => some []
  | .bl i :: ds => (blsD ds).map (i :: ·)
  | _ => none
def strsD : List D → Option (List Str)
  | [] => some []
  | .str i :: ds => (strsD ds).map (i :: ·)
  | _ => none
theorem blsD_map : ∀ {ds : List D} {ns : List Bool}, blsD ds = some ns → ds = ns.map D.bl
  | [], _, h => by
    cases h
    rfl
  | d :: ds, ns, h => by
    unfold blsD at h
    split at h
    · rename_i heq
      cases heq
    · rename_i i es heq
      cases heq
      cases hs : blsD ds with
      | none =>
        rw [hs] at h
        cases h
      | some ms =>
        rw [hs] at h
        cases h
        rw [List.map_cons, blsD_map hs]
    · cases h
theorem strsD_map : ∀ {ds : List D} {ns : List Str}, strsD ds = some ns → ds = ns.map D.str
  | [], _, h => by
    cases h
    rfl
  | d :: ds, ns, h => by
    unfold strsD at h
    split at h
    · rename_i heq
      cases heq
    · rename_i i es heq
      cases heq
      cases hs : strsD ds with
      | none =>
        rw [hs] at h
        cases h
      | some ms =>
        rw [hs] at h
        cases h
        rw [List.map_cons, strsD_map hs]
    · cases h
theorem strsD_strs : ∀ ns : List Str, strsD (ns.map D.str) = some ns
  | [] => rfl
  | n :: ns => by
    show (strsD (ns.map D.str)).map (n :: ·) = _
    rw [strsD_strs ns]
    rfl
def allD : List D → Option Vl
  | [.lst ds] => (blsD ds).map fun ns => .im (.bl (ns.all id))
  | _ => none
theorem ca_all {g : G0} : CaI g (.builtin "all") allD := by
  refine ⟨rAll g.K, fun c X hX => by rw [← hX.eK]; exact cr_all hX.calm, fun A B H vs env xs ds res Q S rr e q => ?_⟩
  unfold allD at e
  split at e
  · rename_i es
    cases hs : blsD es with
    | none =>
      rw [hs] at e
      cases e
    | some ns =>
      rw [hs] at e
      cases e
      obtain ⟨x, rfl, r1⟩ := pr1 rr
      obtain ⟨a, us, rfl, ha, ra⟩ := r1.lst S.same
      rw [blsD_map hs] at ra
      rw [ra.bls] at ha
      exact ⟨a, ns, rfl, .of ha, q B H _ (Same.refl _) (.im S (.bl _))⟩
  · cases e
def listD : List D → Option Vl
  | [.lst ds] => some (.fr (.lst ds))
  | [.tup ds] => some (.fr (.lst ds))
  | _ => none
def tupleD : List D → Option Vl
  | [.lst ds] => some (.im (.tup ds))
  | [.tup ds] => some (.im (.tup ds))
  | _ => none
theorem ca_tuple {g : G0} : CaI g (.type "tuple") tupleD := by
  refine ⟨fun xs H Q => ∃ p ys, xs = [.ref p] ∧ ((SqL g.K H p ys ∧ ∀ l, H l = none → Q (.ref l) (upd H l (.tup ys))) ∨ (SqT g.K H p ys ∧ Q (.ref p) H)), fun c X hX => by rw [← hX.eK]; exact call_tuple_of, fun A B H vs env xs ds res Q S rr e q => ?_⟩
  unfold tupleD at e
  split at e
  · cases e
    obtain ⟨x, rfl, r1⟩ := pr1 rr
    obtain ⟨a, us, rfl, ha, ra⟩ := r1.lst S.same
    refine ⟨a, us, rfl, .inl ⟨.of ha, fun l hl => ?_⟩⟩
    obtain ⟨B', s', v'⟩ := VRp.tup S hl ra
    exact q B' _ _ s' v'
  · cases e
    obtain ⟨x, rfl, r1⟩ := pr1 rr
    obtain ⟨a, us, rfl, ha, ta, ra⟩ := r1.tup S.same
    exact ⟨a, us, rfl, .inr ⟨.of ha, q B H _ (Same.refl _) (.im S (.tup ta ra))⟩⟩
  · cases e

def tyN : D → Option String
  | .non => some "NoneType"
  | .bl _ => some "bool"
  | .int _ => some "int"
  | .str _ => some "str"
  | .tup _ => some "tuple"
  | .lst _ => some "list"
  | .dk _ => some "dict"
  | .dt _ => some "dict"
  | .kf _ => none
  | .tf _ => none
  | .ex _ _ _ => none
  | .cl _ => none
  | .nt _ => none
  | .kt _ => none
  | .sc _ => none
  | .fe => none
  | .ty _ => none
  | .txt _ => none
  | .tp _ => some "tuple"
def tyIs (t n : String) : Bool := t == n || (t == "bool" && n == "int")
def knownT : List String := ["str", "int", "bool", "list", "tuple", "dict"]
theorem kit_all : (["NoneType", "bool", "int", "str", "tuple", "list", "dict"].all fun t => knownT.all fun n => kitB t n == some (tyIs t n)) = true := by decide +kernel
theorem tyN_mem {d : D} {t : String} (h : tyN d = some t) : t ∈ ["NoneType", "bool", "int", "str", "tuple", "list", "dict"] := by
  cases d <;> (unfold tyN at h; first | (cases h; simp) | cases h)
theorem kit_at {d : D} {t n : String} (h : tyN d = some t) (hn : knownT.contains n = true) : kitB t n = some (tyIs t n) := by
  have h1 := List.all_eq_true.mp kit_all t (tyN_mem h)
  have h2 := List.all_eq_true.mp h1 n (by simpa using hn)
  exact eq_of_beq h2
def tysD : List D → Option (List String)
  | [] => some []
  | .ty n :: r => (tysD r).map (n :: ·)
  | _ => none
def isiD : List D → Option Vl
  | [d, .ty n] => match tyN d with
    | some t => if knownT.contains n = true then some (.im (.bl (tyIs t n))) else none
    | none => none
  | [d, .tup ns] => match tyN d, tysD ns with
    | some t, some ms => if (ms.all fun n => knownT.contains n) = true then some (.im (.bl (ms.any fun n => tyIs t n))) else none
    | _, _ => none
  | _ => none
section
variable {K : PySem.W.Frag} {B H : Hp}
theorem Rr.tyx {d : D} {v : V} {t : String} (s : Same B H) (h : Rr K B H d v) (e : tyN d = some t) : TyX K H v (.type t) := by
  cases d with
  | non => cases e; rw [h.non]; exact .base .non
  | bl b => cases e; rw [h.bl]; exact .base (.bl b)
  | int i => cases e; rw [h.int]; exact .base (.int i)
  | str x => cases e; rw [h.str.1]; exact .base (.str x)
  | tup ds =>
    cases e
    obtain ⟨a, xs, rfl, ha, _⟩ := h.tup s
    exact .base (.tup ha)
  | lst ds =>
    cases e
    obtain ⟨a, xs, rfl, ha, _⟩ := h.lst s
    exact .base (.lst ha)
  | dk es =>
    cases e
    obtain ⟨a, xs, rfl, ha, _⟩ := h.dk s
    exact .base (.dK ha)
  | dt es =>
    cases e
    obtain ⟨a, xs, rfl, ha, _⟩ := h.dt s
    exact .base (.dT ha)
  | kf ns => cases e
  | tf ns => cases e
  | ex _ _ _ => cases e
  | cl _ => cases e
  | nt _ => cases e
  | kt _ => cases e
  | sc ns => cases e
  | fe => cases e
  | ty n => cases e
  | txt x => cases e
  | tp ds =>
    cases e
    obtain ⟨a, o, xs, rfl, ha, _⟩ := h.tp s
    exact .fTuple ha
theorem Rps.tys : ∀ {ds : List D} {vs : List V} {ns : List String}, Rps K B ds vs → tysD ds = some ns → Paired ClsV vs (ns.map Value.type)
  | _, _, ns, .nil, e => by
    cases e
    exact .nil
  | d :: ds, v :: vs, ns, .cons h r, e => by
    unfold tysD at e
    split at e
    · rename_i heq
      cases heq
    · rename_i n es heq
      cases heq
      cases hs : tysD ds with
      | none =>
        rw [hs] at e
        cases e
      | some ms =>
        rw [hs] at e
        cases e
        cases h
        exact .cons (.ty n) (Rps.tys r hs)
    · cases e
end
theorem kitAny_of {K : PySem.W.Frag} {d : D} {t : String} (h : tyN d = some t) : ∀ {ns : List String}, (ns.all fun n => knownT.contains n) = true → PySem.W.kitAny K (.type t) (ns.map Value.type) = some (ns.any fun n => tyIs t n)
  | [], _ => rfl
  | n :: ns, hn => by
    have hn : knownT.contains n = true ∧ (ns.all fun n => knownT.contains n) = true := by simpa using hn
    refine kitAny_cons (kit_ty (kit_at h hn.1)) (fun z => ?_) (fun z => ?_)
    · rw [List.any_cons, z, Bool.false_or]
      exact kitAny_of h hn.2
    · rw [List.any_cons, z]
      rfl
theorem ca_isi {g : G0} : CaI g (.builtin "isinstance") isiD := by
  refine ⟨fun xs H Q => rIsi g.K xs H Q ∨ rIsiT g.K xs H Q, fun c X hX => by rw [← hX.eK]; exact CallR.or' call_isi call_isiT, fun A B H vs env xs ds res Q S rr e q => ?_⟩
  unfold isiD at e
  split at e
  · rename_i d n
    split at e
    · rename_i t ht
      split at e
      · rename_i hn
        cases e
        obtain ⟨x, y, rfl, r1, r2⟩ := pr2 rr
        exact .inl ⟨x, y, .type t, .type n, _, rfl, by rw [r2.ty]; exact .ty n, r1.tyx S.same ht, kit_ty (kit_at ht hn), q B H _ (Same.refl _) (.im S (.bl _))⟩
      · cases e
    · cases e
  · rename_i d es
    split at e
    · rename_i t ms ht hm
      split at e
      · rename_i hn
        cases e
        obtain ⟨x, y, rfl, r1, r2⟩ := pr2 rr
        obtain ⟨a, us, rfl, ha, _, ra⟩ := r2.tup S.same
        exact .inr ⟨x, a, us, .type t, _, _, rfl, ha, ra.tys hm, r1.tyx S.same ht, kitAny_of ht hn, q B H _ (Same.refl _) (.im S (.bl _))⟩
      · cases e
    · cases e
  · cases e
/-- a built-in class as a value -/
theorem ee_ty {g : G0} {c : Ct} {x : Str} {n : String} {pos : Pos} (hg : GlC c x) (hm : g.mg x = none) (hv : bootBuiltins x = some (.type n)) (hn : x ≠ "__name__") (hdb : (x == ("__debug__" : Str)) = false) : EE g c (.Name x pos) (eC (.ty n)) :=
  ⟨tC (.ty n), fun X hX => pe_bltn (gl_of hX hg) (by rw [hX.em]; exact hm) hv rfl hn hdb, fun _ => sx_con fun _ => .ty n⟩

def chD (x : Str) : List D := x.cps.toList.map fun c => D.str ⟨#[c]⟩
def mStr (m : M Vl) : M (List D) := bd m fun r e => match r with
  | .im (.str x) => some (chD x, e)
  | _ => none
section
variable {K : PySem.W.Frag} {A : Anc}
theorem wd_str {B0 : Hp} {x : Str} (ho : PyData.strOk x = true) : WD K (Its x) B0 (chD x) := by
  have hl : (chD x).length = x.cps.size := by simp [chD]
  refine ⟨fun i H B hi _ _ => ?_, fun H B _ _ => ?_, fun i H B v H' hi _ _ y => ?_⟩
  · exact walk_str.goes i H (by omega) trivial
  · rw [hl]
    exact walk_str.stops H trivial
  · obtain ⟨e1, c, h1, h2⟩ := walk_str.yields i H v H' (by omega) trivial y
    have h3 : x.cps.toList[i]? = some c := by simpa using h1
    refine ⟨.str ⟨#[c]⟩, by simp [chD, h1], .inl ⟨e1, ?_⟩⟩
    rw [h2]
    exact .str _ (ok_sub (l := [c]) ho fun c' hc' => by
      rw [List.mem_singleton.mp hc']
      exact List.mem_of_getElem? h3)
theorem si_str {t : TE} {m : M Vl} (h : SEX K A t m) : SIX K A (iStr t) (mStr m) := fun σ τ B H env pe env' ds R S hl e q => by
  obtain ⟨r, e1, he, e⟩ := bd_inv e
  split at e
  · rename_i x
    cases e
    refine h σ τ B H env pe _ _ _ S hl he fun B1 H1 v s1 hl1 hv => ?_
    obtain ⟨S1, rr⟩ := hv
    cases rr with
    | str _ ho => exact ⟨x, rfl, q B1 H1 _ s1 hl1 S1 (wd_str ho)⟩
  · cases e
theorem ei_str {g : G0} {c : Ct} {tg e : Expr} {m : M Vl} (h : EE g c e m) : EI g c tg e (mStr m) := by
  obtain ⟨t, h1, h2⟩ := h
  exact ⟨_, fun X hX => pi_str (h1 X hX), fun A => si_str (h2 A)⟩
end
end PD
namespace PD
variable [PD.TabL]
open PySem PySem.Spec PyProof.Rows L2

mutual
def D.wt : D → Nat
  | .non => 4
  | .bl _ => 5
  | .int _ => 2000
  | .str x => 10 * x.length + 2
  | .tup ds => wts ds + 4
  | .lst ds => wts ds + 4
  | .tp ds => wts ds + 4
  | _ => 0
def wts : List D → Nat
  | [] => 0
  | d :: ds => d.wt + 2 + wts ds
end
def intB (i : Int) : Bool := decide (i.natAbs.log2 < 1920)
mutual
def D.shw : D → Bool
  | .non => true
  | .bl _ => true
  | .int i => intB i
  | .str _ => true
  | .tup ds => shws ds
  | .lst ds => shws ds
  | .tp ds => shws ds
  | _ => false
def shws : List D → Bool
  | [] => true
  | d :: ds => d.shw && shws ds
end
mutual
theorem shw_py : ∀ {d : D}, d.shw = true → d.py.showable = true ∧ d.isPy = true
  | .non, _ => by simp [D.py, PyData.showable, D.isPy]
  | .bl b, _ => by simp [D.py, PyData.showable, D.isPy]
  | .int i, h => by
    have h : i.natAbs.log2 < 1920 := by simpa [D.shw, intB] using h
    simp [D.py, PyData.showable, D.isPy, h]
  | .str x, _ => by simp [D.py, PyData.showable, D.isPy]
  | .tup ds, h => by
    have := shws_py (ds := ds) (by simpa [D.shw] using h)
    simp [D.py, PyData.showable, D.isPy, this]
  | .lst ds, h => by
    have := shws_py (ds := ds) (by simpa [D.shw] using h)
    simp [D.py, PyData.showable, D.isPy, this]
  | .dk _, h => by simp [D.shw] at h
  | .dt _, h => by simp [D.shw] at h
  | .kf _, h => by simp [D.shw] at h
  | .tf _, h => by simp [D.shw] at h
  | .ex _ _ _, h => by simp [D.shw] at h
  | .cl _, h => by simp [D.shw] at h
  | .nt _, h => by simp [D.shw] at h
  | .kt _, h => by simp [D.shw] at h
  | .sc _, h => by simp [D.shw] at h
  | .fe, h => by simp [D.shw] at h
  | .ty _, h => by simp [D.shw] at h
  | .txt _, h => by simp [D.shw] at h
  | .tp ds, h => by
    have := shws_py (ds := ds) (by simpa [D.shw] using h)
    simp [D.py, PyData.showable, D.isPy, this]
theorem shws_py : ∀ {ds : List D}, shws ds = true → PyData.showableAll (pys ds) = true ∧ arePy ds = true
  | [], _ => by simp [pys, PyData.showableAll, arePy]
  | d :: ds, h => by
    have h : d.shw = true ∧ shws ds = true := by simpa [shws] using h
    have h1 := shw_py h.1
    have h2 := shws_py h.2
    simp [pys, PyData.showableAll, arePy, h1, h2]
end
theorem len_app (x y : Str) : (x ++ y).length = x.length + y.length := by
  show (x.cps ++ y.cps).size = _
  rw [Array.size_append]
  rfl
theorem textFrom_le : ∀ (ts : List Str) (k : Nat) (acc : Str), (textFrom k acc ts).length ≤ acc.length + (ts.map fun t => t.length + 2).sum
  | [], k, acc => by
    show acc.length ≤ _
    omega
  | t :: r, k, acc => by
    have ih := textFrom_le r (k + 1) (acc ++ (if k > 0 then ", " else "" : String) ++ t)
    have e : (acc ++ (if k > 0 then ", " else "" : String) ++ t : Str).length ≤ acc.length + 2 + t.length := by
      rw [len_app, len_app]
      have : (Str.ofString (if k > 0 then ", " else "")).length ≤ 2 := by
        split <;> decide +kernel
      omega
    show (textFrom (k + 1) _ r).length ≤ _
    rw [List.map_cons, List.sum_cons]
    omega
theorem joinS_le : ∀ ts : List Str, (Str.join ", " ts).length ≤ (ts.map fun t => t.length + 2).sum
  | [] => by
    show (Str.join ", " []).length ≤ 0
    decide +kernel
  | x :: r => by
    have h := join_length_add (x :: r) (by simp)
    have p : piled (x :: r) = ((x :: r).map fun t => t.length + 2).sum := rfl
    rw [p] at h
    omega
theorem int_len (i : Int) (h : i.natAbs.log2 < 1920) : (Str.ofString (toString i)).length ≤ 2000 := by
  have e := int_text_length_le (k := 1920) (by decide) h
  rw [PySem.ofString_length]
  omega
mutual
theorem shown_le : ∀ {d : D} {K : PySem.W.Frag} {B : Hp} {v : V}, d.shw = true → Rp K B d v → d.py.shown.length ≤ d.wt
  | .non, _, _, _, _, _ => by simp only [D.py, PyData.shown, D.wt]; decide +kernel
  | .bl b, _, _, _, _, _ => by
    simp only [D.py, PyData.shown, D.wt]
    cases b <;> decide +kernel
  | .int i, _, _, _, h, _ => by
    simp only [D.py, PyData.shown, D.wt]
    exact int_len i (by simpa [D.shw, intB] using h)
  | .str x, _, _, _, _, r => by
    simp only [D.py, PyData.shown, D.wt]
    cases r with
    | str _ ho => exact StrLaws.reprText_len x fun c hc => Nat.lt_of_lt_of_le (ok_mem.mp ho c hc) (by decide)
  | .tup ds, _, _, _, h, r => by
    simp only [D.py, PyData.shown, D.wt]
    cases r with
    | tup _ rr =>
      have := showns_le (ds := ds) (by simpa [D.shw] using h) rr
      unfold tupleText
      rw [len_app, len_app]
      have j := joinS_le (PyData.shownAll (pys ds))
      have e1 : (Str.ofString "(").length = 1 := by decide +kernel
      have e2 : (Str.ofString (if (PyData.shownAll (pys ds)).length == 1 then ",)" else ")")).length ≤ 2 := by
        split <;> decide +kernel
      omega
  | .lst ds, _, _, _, h, r => by
    simp only [D.py, PyData.shown, D.wt]
    cases r with
    | lst _ rr =>
      have := showns_le (ds := ds) (by simpa [D.shw] using h) rr
      unfold listText
      rw [len_app]
      have j := textFrom_le (PyData.shownAll (pys ds)) 0 (Str.ofString "[")
      have e1 : (Str.ofString "[").length = 1 := by decide +kernel
      have e2 : (Str.ofString "]").length = 1 := by decide +kernel
      omega
  | .dk _, _, _, _, h, _ => by simp [D.shw] at h
  | .dt _, _, _, _, h, _ => by simp [D.shw] at h
  | .kf _, _, _, _, h, _ => by simp [D.shw] at h
  | .tf _, _, _, _, h, _ => by simp [D.shw] at h
  | .ex _ _ _, _, _, _, h, _ => by simp [D.shw] at h
  | .cl _, _, _, _, h, _ => by simp [D.shw] at h
  | .nt _, _, _, _, h, _ => by simp [D.shw] at h
  | .kt _, _, _, _, h, _ => by simp [D.shw] at h
  | .sc _, _, _, _, h, _ => by simp [D.shw] at h
  | .fe, _, _, _, h, _ => by simp [D.shw] at h
  | .ty _, _, _, _, h, _ => by simp [D.shw] at h
  | .txt _, _, _, _, h, _ => by simp [D.shw] at h
  | .tp ds, _, _, _, h, r => by
    simp only [D.py, PyData.shown, D.wt]
    cases r with
    | tp _ _ rr =>
      have := showns_le (ds := ds) (by simpa [D.shw] using h) rr
      unfold tupleText
      rw [len_app, len_app]
      have j := joinS_le (PyData.shownAll (pys ds))
      have e1 : (Str.ofString "(").length = 1 := by decide +kernel
      have e2 : (Str.ofString (if (PyData.shownAll (pys ds)).length == 1 then ",)" else ")")).length ≤ 2 := by
        split <;> decide +kernel
      omega
theorem showns_le : ∀ {ds : List D} {K : PySem.W.Frag} {B : Hp} {vs : List V}, shws ds = true → Rps K B ds vs → ((PyData.shownAll (pys ds)).map fun t => t.length + 2).sum ≤ wts ds
  | [], _, _, _, _, _ => by simp [pys, PyData.shownAll, wts]
  | d :: ds, _, _, _, h, .cons r1 r2 => by
    have h : d.shw = true ∧ shws ds = true := by simpa [shws] using h
    have h1 := shown_le h.1 r1
    have h2 := showns_le h.2 r2
    simp only [pys, PyData.shownAll, wts, List.map_cons, List.sum_cons]
    omega
end

/-- repr(x) -/
def reprD : List D → Option Vl
  | [d] => if (d.shw && small d.wt && depB 60 d) = true then some (.im (.txt d.py.shown)) else none
  | _ => none
theorem listText_le {ds : List D} (h : ((PyData.shownAll (pys ds)).map fun t => t.length + 2).sum ≤ wts ds) : (listText (PyData.shownAll (pys ds))).length ≤ wts ds + 4 := by
  unfold listText
  rw [len_app]
  have j := textFrom_le (PyData.shownAll (pys ds)) 0 (Str.ofString "[")
  have e1 : (Str.ofString "[").length = 1 := by decide +kernel
  have e2 : (Str.ofString "]").length = 1 := by decide +kernel
  omega
theorem shown_leR {K : PySem.W.Frag} {B H : Hp} {d : D} {v : V} (h : d.shw = true) (r : Rr K B H d v) : d.py.shown.length ≤ d.wt := by
  cases r with
  | fz r => exact shown_le h r
  | ct c =>
    rename_i p
    generalize e : H p = o at c
    cases c with
    | @lst xs ds r =>
      simp only [D.py, PyData.shown, D.wt]
      exact listText_le (showns_le (by simpa [D.shw] using h) r)
    | dk _ _ => simp [D.shw] at h
    | dt _ _ => simp [D.shw] at h
end PD
namespace PD
variable [PD.TabL]
open PySem PySem.Spec PyProof.Rows L2

def mth (r : V → List V → Hp → VK → Prop) : List V → Hp → VK → Prop := fun xs H Q => match xs with
  | x :: ys => r x ys H Q
  | [] => False
/-- d is of the class T, and its methods are looked up there -/
def tyT (T : String) : D → Bool
  | .str _ => T == "str"
  | .lst _ => T == "list"
  | .sc _ => T == "list"
  | .dk _ => T == "dict"
  | .dt _ => T == "dict"
  | _ => false
theorem tyT_ok {K : PySem.W.Frag} {B H : Hp} {T : String} {d : D} {v : V} (s : Same B H) (h : tyT T d = true) (r : Rr K B H d v) : tyV K T v H := by
  cases d with
  | str x =>
    rw [r.str.1]
    exact eq_of_beq h
  | lst ds =>
    obtain ⟨a, xs, rfl, ha, _⟩ := r.lst s
    exact .inl ⟨eq_of_beq h, xs, .of ha⟩
  | sc ns =>
    obtain ⟨a, rfl, ha⟩ := r.sc s
    exact .inl ⟨eq_of_beq h, _, ha⟩
  | dk es =>
    obtain ⟨a, xs, rfl, ha, _⟩ := r.dk s
    exact .inr (.inr (.inl ⟨eq_of_beq h, .inl ⟨_, ha⟩⟩))
  | dt es =>
    obtain ⟨a, xs, rfl, ha, _⟩ := r.dt s
    exact .inr (.inr (.inl ⟨eq_of_beq h, .inr ⟨_, ha⟩⟩))
  | _ => cases h
def ckT (T : String) (r : Vl) : M Unit := fun e => match cnt e r with
  | some d => if tyT T d = true then some ((), e) else none
  | none => none
def eM (T : String) (f : List D → Option Vl) (m : M Vl) (ms : M (List Vl)) : M Vl := bd m fun r => bd (ckT T r.hold) fun _ => bd ms fun rs e => match cnts e (r.hold :: rs) with
  | some ds => match f ds with
    | some (.im d) => some (.im d, e)
    | some (.fr d) => some (.fr d, e)
    | _ => none
  | none => none
section
variable {K : PySem.W.Frag} {A : Anc}
theorem ckT_inv {T : String} {r : Vl} {e e' : Env} {u : Unit} (h : ckT T r e = some (u, e')) : ∃ d, cnt e r = some d ∧ tyT T d = true ∧ e' = e := by
  unfold ckT at h
  split at h
  · rename_i d hd
    split at h
    · rename_i ht
      cases h
      exact ⟨d, hd, ht, rfl⟩
    · cases h
  · cases h
theorem sx_meth {T : String} {r : V → List V → Hp → VK → Prop} {f : List D → Option Vl} {to : TE} {ta : TA} {m : M Vl} {ms : M (List Vl)} (hp : PrS K (mth r) f) (ho : SEX K A to m) (ha : SAX K A ta ms) : SEX K A (tBM K T r to ta) (eM T f m ms) := fun σ τ B H env pe env' res Q S hl e q => by
  obtain ⟨r0, e2, h1, f1⟩ := bd_inv e
  obtain ⟨u, e2', h2, f2⟩ := bd_inv f1
  obtain ⟨d, hd, ht, he⟩ := ckT_inv h2
  rw [he] at f2
  obtain ⟨rs, e3, h3, f3⟩ := bd_inv f2
  clear e f1 f2 h2
  refine ho σ τ B H env pe e2 r0 _ S hl h1 fun B1 H1 v s1 hl1 hv => ?_
  obtain ⟨B2, s2, S2, hh⟩ := hv.held
  refine ⟨tyT_ok S2.same ht (hh.rr S2 hl1 hd), ?_⟩
  refine ha σ τ B2 H1 e2 pe e3 rs _ S2 hl1 h3 fun B3 H3 vs s3 hl3 S3 hr => ?_
  split at f3
  · rename_i ds hc
    have rr := Hv.rrs S3 hl3 (.cons (hh.mono s3) hr) hc
    split at f3
    · rename_i d' hf
      cases f3
      exact hp A B3 H3 (σ ++ τ) (env' ++ pe) (v :: vs) ds _ Q S3 rr hf fun B4 H4 w s4 h4 => q B4 H4 w ((s1.trans s2).trans (s3.trans s4)) hl3 h4
    · rename_i d' hf
      cases f3
      exact hp A B3 H3 (σ ++ τ) (env' ++ pe) (v :: vs) ds _ Q S3 rr hf fun B4 H4 w s4 h4 => q B4 H4 w ((s1.trans s2).trans (s3.trans s4)) hl3 h4
    · cases f3
  · cases f3
end
section
variable {g : G0} {c : Ct} {o e : Expr} {es : List Expr} {m : M Vl} {ms : M (List Vl)} {pos apos : Pos} {T id : String} {name : Str} {f : List D → Option Vl}
structure MeI (g : G0) (T : String) (name : Str) (id : String) (f : List D → Option Vl) : Prop where
  pa : PlainAttrs T
  slot : Slot T name id
  ty : typeOf (.builtin id) = pure (.type "method_descriptor")
  run : ∃ r : V → List V → Hp → VK → Prop, (∀ c X, Cok g c X → MtR X id r) ∧ PrS g.K (mth r) f
theorem ee_meth (M : MeI g T name id f) (h : EE g c o m) (h' : EA g c (e :: es) ms) (pl : Pl e) (hb : ∀ env : PySem.Env, attributeBase o name env (eval o env) = eval o env)
    (hf : ∀ env : PySem.Env, ((backTo pos (starEach (e :: es) env)).all (fun x => !x.1) && (backToKw pos (keywordEach [] env)).all (fun x => x.1.isSome)
      && decide ((e :: es).length + ([] : List Keyword).length + (if ([] : List Keyword).isEmpty then 0 else 1) < 30)) = true) (hl : (apos.endLine == pos.line) = true) (hp : ∀ env : PySem.Env, (backTo pos (starEach es env)).any (·.1) = false) :
    EE g c (.Call (.Attribute o name apos) (e :: es) [] pos) (eM T f m ms) := by
  obtain ⟨t1, h1, k1⟩ := h
  obtain ⟨t2, h2, k2⟩ := h'
  obtain ⟨r, hr, hpr⟩ := M.run
  exact ⟨tBM g.K T r t1 t2, fun X hX => by
    rw [← hX.eK]
    exact pe_bm M.pa M.slot M.ty (hr c X hX) (h1 X hX) (h2 X hX) (hb _) (hf _) hl (pl es X.env) (hp _), fun A => sx_meth hpr (k1 A) (k2 A)⟩
/-- x.join(y) -/
def joinD : List D → Option Vl
  | [.str x, .lst ds] => match strsD ds with
    | some ys => if (decide ((ys.map (·.length)).sum + ys.length * x.length ≤ 16777216) && PyData.strOk (Txt.join x ys)) = true then some (.im (.str (Txt.join x ys))) else none
    | none => none
  | [.str x, .tup ds] => match strsD ds with
    | some ys => if (decide ((ys.map (·.length)).sum + ys.length * x.length ≤ 16777216) && PyData.strOk (Txt.join x ys)) = true then some (.im (.str (Txt.join x ys))) else none
    | none => none
  | _ => none
theorem me_join : MeI g "str" "join" "str.join" joinD := ⟨F.plainAttrs_str, F.slot_str_join, F.type_str_join, _, fun c X hX => by
    have := @mt_join X
    rw [hX.eK] at this
    exact this, fun A B H vs env xs ds res Q S rr e q => by
  unfold joinD at e
  split at e
  · rename_i x ds
    split at e
    · rename_i ys hy
      split at e
      · rename_i hx
        cases e
        simp only [Bool.and_eq_true] at hx
        obtain ⟨a, b, rfl, r1, r2⟩ := pr2 rr
        obtain ⟨p, us, rfl, hp, ru⟩ := r2.lst S.same
        rw [strsD_map hy] at ru
        exact ⟨x, p, ys, r1.str.1, rfl, .inl (by rw [← ru.strs]; exact .of hp), of_decide_eq_true hx.1, q B H _ (Same.refl _) (.im S (.str _ hx.2))⟩
      · cases e
    · cases e
  · rename_i x ds
    split at e
    · rename_i ys hy
      split at e
      · rename_i hx
        cases e
        simp only [Bool.and_eq_true] at hx
        obtain ⟨a, b, rfl, r1, r2⟩ := pr2 rr
        obtain ⟨p, us, rfl, hp, _, ru⟩ := r2.tup S.same
        rw [strsD_map hy] at ru
        exact ⟨x, p, ys, r1.str.1, rfl, .inr (by rw [← ru.strs]; exact .inl (.inl hp)), of_decide_eq_true hx.1, q B H _ (Same.refl _) (.im S (.str _ hx.2))⟩
      · cases e
    · cases e
  · cases e⟩
end

def mutAtD (e : Env) (i : Nat) : Option D := match e[i]? with
  | some (.ow d) => some d
  | some (.io _ d) => some d
  | _ => none
/-- the receiver's content and the arguments: the new content, the answer -/
def eU (T : String) (f : D → List D → Option (D × D)) (m : M Vl) (ms : M (List Vl)) : M Vl := bd m fun r => match r with
  | .bo i => bd (ckT T (.bo i)) fun _ => bd ms fun rs => bd (frzs rs) fun ds e => match mutAtD e i with
    | some d0 => match f d0 ds with
      | some (d', x) => some (.im x, putC e i d')
      | none => none
    | none => none
  | _ => fun _ => none
def MuS (K : PySem.W.Frag) (r : V → List V → Hp → VK → Prop) (f : D → List D → Option (D × D)) : Prop :=
  ∀ (B H : Hp) (p : Addr) (d0 d' x : D) (ds : List D) (xs : List V) (Q : VK), Same B H → Cont K B d0 (H p) → Rps K B ds xs → f d0 ds = some (d', x) → (∀ o v, Cont K B d' (some o) → Rp K B x v → Q v (upd H p o)) → r (.ref p) xs H Q
section
variable {K : PySem.W.Frag} {A : Anc}
theorem mutAtD_at {B H : Hp} {σ τ : L2.St} {env pe : Env} {i : Nat} {d0 : D} {v : V} (S : SR K A B H (σ ++ τ) (env ++ pe)) (hl : σ.length = env.length) (h : σ[i]? = some (some v)) (m : mutAtD env i = some d0) : ∃ p, v = .ref p ∧ Cont K B d0 (H p) ∧ ∀ d' o, Cont K B d' (some o) → SR K A B (upd H p o) (σ ++ τ) (putC env i d' ++ pe) := by
  have hj := (List.getElem?_eq_some_iff.mp h).1
  unfold mutAtD at m
  split at m
  · rename_i d he
    cases m
    have hi := (List.getElem?_eq_some_iff.mp he).1
    cases S.at hl he h with
    | ow b h0 c =>
      rename_i p
      refine ⟨p, rfl, c, fun d' o cc => ?_⟩
      have := S.write (i := i) (p := p) (sl := .ow d0) (sl' := .ow d') (d := d0) (by rw [List.getElem?_append_left hi]; exact he) (.inl ⟨rfl, rfl⟩) (by rw [List.getElem?_append_left hj]; exact h) cc
      rw [List.set_append_left _ _ hi] at this
      unfold putC
      rw [he]
      exact this
  · rename_i j d he
    cases m
    have hi := (List.getElem?_eq_some_iff.mp he).1
    cases S.at hl he h with
    | io h0 c =>
      rename_i p
      refine ⟨p, rfl, c, fun d' o cc => ?_⟩
      have := S.write (i := i) (p := p) (sl := .io j d0) (sl' := .io j d') (d := d0) (by rw [List.getElem?_append_left hi]; exact he) (.inr ⟨j, rfl, rfl⟩) (by rw [List.getElem?_append_left hj]; exact h) cc
      rw [List.set_append_left _ _ hi] at this
      unfold putC
      rw [he]
      exact this
  · cases m
theorem sx_mut {T : String} {r : V → List V → Hp → VK → Prop} {f : D → List D → Option (D × D)} {to : TE} {ta : TA} {m : M Vl} {ms : M (List Vl)} (hp : MuS K r f) (ho : SEX K A to m) (ha : SAX K A ta ms) : SEX K A (tBM K T r to ta) (eU T f m ms) := fun σ τ B H env pe env' res Q S hl e q => by
  obtain ⟨r0, e2, h1, f1⟩ := bd_inv e
  cases r0 with
  | bo i =>
    dsimp only at f1
    obtain ⟨u, e2', h2, f2⟩ := bd_inv f1
    obtain ⟨d, hd, ht, he⟩ := ckT_inv h2
    rw [he] at f2
    obtain ⟨rs, e3, h3, f3⟩ := bd_inv f2
    obtain ⟨ds, e4, h4, f4⟩ := bd_inv f3
    clear e f1 f2 f3 h2
    refine ho σ τ B H env pe e2 _ _ S hl h1 fun B1 H1 v s1 hl1 hv => ?_
    obtain ⟨B2, s2, S2, hh⟩ := hv.held
    refine ⟨tyT_ok S2.same ht (hh.rr S2 hl1 hd), ?_⟩
    refine ha σ τ B2 H1 e2 pe e3 rs _ S2 hl1 h3 fun B3 H3 vs s3 hl3 S3 hr => ?_
    obtain ⟨B4, s4, S4, hl4, rr⟩ := frzs_ok S3 hl3 hr h4
    split at f4
    · rename_i d0 hm
      split at f4
      · rename_i d' x hf
        cases f4
        obtain ⟨p, rfl, c, hw⟩ := mutAtD_at S4 hl4 hh hm
        refine hp B4 H3 p d0 d' x ds vs Q S4.same c rr hf fun o w c' r' => ?_
        exact q B4 _ w ((s1.trans s2).trans (s3.trans s4)) (by rw [putC_length]; exact hl4) ⟨hw d' o c', r'⟩
      · cases f4
    · cases f4
  | im d => cases f1
  | fr d => cases f1
end
section
variable {g : G0} {c : Ct} {o e : Expr} {es : List Expr} {m : M Vl} {ms : M (List Vl)} {pos apos : Pos} {T id : String} {name : Str} {f : D → List D → Option (D × D)}
structure MuI (g : G0) (T : String) (name : Str) (id : String) (f : D → List D → Option (D × D)) : Prop where
  pa : PlainAttrs T
  slot : Slot T name id
  ty : typeOf (.builtin id) = pure (.type "method_descriptor")
  run : ∃ r : V → List V → Hp → VK → Prop, (∀ c X, Cok g c X → MtR X id r) ∧ MuS g.K r f
theorem ee_mut (M : MuI g T name id f) (h : EE g c o m) (h' : EA g c (e :: es) ms) (pl : Pl e) (hb : ∀ env : PySem.Env, attributeBase o name env (eval o env) = eval o env)
    (hf : ∀ env : PySem.Env, ((backTo pos (starEach (e :: es) env)).all (fun x => !x.1) && (backToKw pos (keywordEach [] env)).all (fun x => x.1.isSome)
      && decide ((e :: es).length + ([] : List Keyword).length + (if ([] : List Keyword).isEmpty then 0 else 1) < 30)) = true) (hl : (apos.endLine == pos.line) = true) (hp : ∀ env : PySem.Env, (backTo pos (starEach es env)).any (·.1) = false) :
    EE g c (.Call (.Attribute o name apos) (e :: es) [] pos) (eU T f m ms) := by
  obtain ⟨t1, h1, k1⟩ := h
  obtain ⟨t2, h2, k2⟩ := h'
  obtain ⟨r, hr, hpr⟩ := M.run
  exact ⟨tBM g.K T r t1 t2, fun X hX => by
    rw [← hX.eK]
    exact pe_bm M.pa M.slot M.ty (hr c X hX) (h1 X hX) (h2 X hX) (hb _) (hf _) hl (pl es X.env) (hp _), fun A => sx_mut hpr (k1 A) (k2 A)⟩
def lessL (n : Nat) : Bool := decide (n < sizeLine)
def appendD : D → List D → Option (D × D)
  | .lst ds, [d] => if lessL ds.length = true then some (.lst (ds ++ [d]), .non) else none
  | _, _ => none
theorem cont_lst {K : PySem.W.Frag} {B : Hp} {ds : List D} {o : Option HO} (c : Cont K B (.lst ds) o) : ∃ xs, o = some (.lst xs) ∧ Rps K B ds xs := by
  cases c with
  | lst r => exact ⟨_, rfl, r⟩
theorem rps1 {K : PySem.W.Frag} {B : Hp} {d : D} {xs : List V} (r : Rps K B [d] xs) : ∃ x, xs = [x] ∧ Rp K B d x := by
  cases r with
  | cons r t =>
    cases t
    exact ⟨_, rfl, r⟩
theorem rps2 {K : PySem.W.Frag} {B : Hp} {d e : D} {xs : List V} (r : Rps K B [d, e] xs) : ∃ x y, xs = [x, y] ∧ Rp K B d x ∧ Rp K B e y := by
  cases r with
  | cons r t =>
    obtain ⟨y, rfl, r2⟩ := rps1 t
    exact ⟨_, y, rfl, r, r2⟩
theorem mu_append : MuI g "list" "append" "list.append" appendD := ⟨F.plainAttrs_list, F.slot_list_append, F.type_list_append, _, fun c X hX => mt_append, fun B H p d0 d' x ds xs Q s c r e q => by
  unfold appendD at e
  split at e
  · rename_i ds0 d
    split at e
    · rename_i hl
      cases e
      obtain ⟨ys, hy, rr⟩ := cont_lst c
      obtain ⟨v, rfl, rv⟩ := rps1 r
      exact ⟨p, ys, v, rfl, rfl, hy, by rw [← rr.length]; exact of_decide_eq_true hl, q _ _ (.lst (rr.app (.one rv))) .non⟩
    · cases e
  · cases e⟩
def reverseD : D → List D → Option (D × D)
  | .lst ds, [] => some (.lst ds.reverse, .non)
  | _, _ => none
def extendD : D → List D → Option (D × D)
  | .lst ds, [.lst es] => if small (ds.length + es.length) = true then some (.lst (ds ++ es), .non) else none
  | _, _ => none
def popD : D → List D → Option (D × D)
  | .lst ds, [] => match ds[ds.length - 1]? with
    | some d => some (.lst ds.dropLast, d)
    | none => none
  | .lst ds, [.int i] => if (decide (-(2 ^ 63) ≤ i) && decide (i < 2 ^ 63)) = true then match seqIndex? i ds.length with
    | some k => match ds[k]? with
      | some d => some (.lst (ds.eraseIdx k), d)
      | none => none
    | none => none
    else none
  | _, _ => none
end

def gS (f : D → D → D → Option D) (m mi : M Vl) : Vl → M Unit := fun r => bd (frz r.hold) fun d => bd m fun r0 => match r0 with
  | .bo i => bd mi fun r1 e => match mutAtD e i, cnt e r1.hold with
    | some d0, some k => match f d0 k d with
      | some d' => some ((), putC e i d')
      | none => none
    | _, _ => none
  | _ => fun _ => none
def PutS (K : PySem.W.Frag) (t : TSet) (f : D → D → D → Option D) : Prop :=
  ∀ (B H : Hp) (p : Addr) (k v : V) (d0 dk d d' : D) (Q : Hp → Prop), Same B H → Cont K B d0 (H p) → Rr K B H dk k → Rp K B d v → f d0 dk d = some d' → (∀ o, Cont K B d' (some o) → Q (upd H p o)) → t (.ref p) k v H Q
theorem sg_sub {K : PySem.W.Frag} {A : Anc} {to ti : TE} {t : TSet} {f : D → D → D → Option D} {m mi : M Vl} (hp : PutS K t f) (ho : SEX K A to m) (hi : SEX K A ti mi) : SGX K A [] (gSub to ti t) (gS f m mi) := fun σ τ B H env pe env' r v Q hv hl e q => by
  obtain ⟨B0, s0, S0, hh0⟩ := hv.held
  obtain ⟨d, e1, h1, f1⟩ := bd_inv e
  obtain ⟨B1, s1, S1, hl1, rd⟩ := frz_ok S0 hl hh0 h1
  obtain ⟨r0, e2, h2, f2⟩ := bd_inv f1
  cases r0 with
  | bo i =>
    dsimp only at f2
    obtain ⟨r1, e3, h3, f3⟩ := bd_inv f2
    clear e f1 f2
    refine ho σ τ B1 H e1 pe e2 _ _ S1 hl1 h2 fun B2 H2 o s2 hl2 ho2 => ?_
    obtain ⟨S2, hi2⟩ := ho2
    refine hi σ τ B2 H2 e2 pe e3 _ _ S2 hl2 h3 fun B3 H3 k s3 hl3 hk => ?_
    obtain ⟨B4, s4, S4, hh⟩ := hk.held
    split at f3
    · rename_i d0 dk hm hc
      split at f3
      · rename_i d' hf
        cases f3
        obtain ⟨p, rfl, c, hw⟩ := mutAtD_at S4 hl3 hi2 hm
        refine hp B4 H3 p k v d0 dk d d' _ S4.same c (hh.rr S4 hl3 hc) (rd.mono ((s2.trans s3).trans s4)) hf fun o c' => ?_
        exact q σ B4 _ ((s0.trans s1).trans ((s2.trans s3).trans s4)) (by rw [putC_length]; exact hl3) (fun _ _ => rfl) (hw d' o c')
      · cases f3
    · cases f3
  | im d => cases f2
  | fr d => cases f2
def SeI (g : G0) (f : D → D → D → Option D) : Prop := ∃ t : TSet, (∀ c X, Cok g c X → PSet X t) ∧ PutS g.K t f
section
variable {g : G0} {c : Ct} {o i : Expr} {m mi : M Vl} {pos : Pos} {f : D → D → D → Option D}
theorem eg_sub (M : SeI g f) (h : EE g c o m) (h' : EE g c i mi) (ha : ∀ env v, assign (.Subscript o i pos) env v = (do
      let ov ← holding [v] (eval o env)
      let iv ← holding [v, ov] (eval i env)
      standAt pos
      holding [v, ov, iv] (setItem ov iv v)
      release [v, ov, iv] [])) : EG g c (.Subscript o i pos) [] (gS f m mi) := by
  obtain ⟨t1, h1, k1⟩ := h
  obtain ⟨t2, h2, k2⟩ := h'
  obtain ⟨t, ht, hp⟩ := M
  exact ⟨gSub t1 t2 t, fun X hX => pg_sub (h1 X hX) (h2 X hX) (ht c X hX) (ha _), fun A => sg_sub hp (k1 A) (k2 A)⟩
def setD : D → D → D → Option D
  | .lst ds, .int i, d => match ixN ds.length i with
    | some j => some (.lst (ds.set j d))
    | none => none
  | _, _, _ => none
end
end PD
namespace PD
variable [PD.TabL]
open PySem PySem.Spec PyProof.Rows L2

section
variable {K : PySem.W.Frag} {A : Anc}
end
section
variable {g : G0} {c : Ct} {a b d : Expr} {ms : M (List Vl)} {pos px py pz pt : Pos} {kt k2 pt2}
end
end PD
namespace PD
variable [PD.TabL]
open PySem PySem.Spec PyProof.Rows L2
/-- a module's constant -/
def GV (g : G0) (x : Str) (d : D) : Prop := ∃ (v : V) (u : Value), g.mg x = some u ∧ RelV v u ∧ ∀ B, Rp g.K B d v
theorem ee_gv {g : G0} {c : Ct} {x : Str} {d : D} {pos : Pos} (hg : GlC c x) (hm : GV g x d) (hdb : (x == ("__debug__" : Str)) = false) : EE g c (.Name x pos) (eC d) := by
  obtain ⟨v, u, h1, h2, h3⟩ := hm
  exact ee_glob hg h1 h2 h3 hdb
section
variable {g : G0} {c : Ct} {a b d : Expr} {ma mb mc : M Vl} {pos : Pos}
theorem et_cmp {op : CmpOp} {f : List D → Option Vl} (ho : OpI g (compareOp op) f) (h : EE g c a ma) (h' : EE g c b mb) (hm : behindInMarks op b = false) : ET g c (.Compare a [op] [b] pos) (mB (eP f (cA ma (cA mb cN)))) := by
  obtain ⟨r, o1, o2⟩ := ho
  obtain ⟨t, h1, h2⟩ := h
  obtain ⟨u, h3, h4⟩ := h'
  exact ⟨tTest (tOp r t u), fun X hX => pt_cmpR (o1 c X hX) (h1 X hX) (h3 X hX) hm, fun A => st_val (sx_op o2 (h2 A) (h4 A))⟩
theorem et_chain {op op' : CmpOp} {f h : List D → Option Vl} (ho : OpI g (compareOp op) f) (ho' : OpI g (compareOp op') h) (ha : EE g c a ma) (hb : EE g c b mb) (hc : EE g c d mc) (hm : lastMarks [op, op'] [b, d] = false) :
    ET g c (.Compare a [op, op'] [b, d] pos) (mB (eChain f h ma mb mc)) := by
  obtain ⟨r, o1, o2⟩ := ho
  obtain ⟨r', o3, o4⟩ := ho'
  obtain ⟨t, h1, h2⟩ := ha
  obtain ⟨u, h3, h4⟩ := hb
  obtain ⟨v, h5, h6⟩ := hc
  exact ⟨tTest (tChain r r' t u v), fun X hX => pt_chain (o1 c X hX) (o3 c X hX) (h1 X hX) (h3 X hX) (h5 X hX) hm, fun A => st_val (sx_chain o2 o4 (h2 A) (h4 A) (h6 A))⟩
end
end PD
namespace PD
variable [PD.TabL]
open PySem PySem.Spec PyProof.Rows L2
theorem small_lit {n : Nat} (h : n ≤ 16777216) : small n = true := decide_eq_true h
theorem at_nat {α : Type} {l : List α} {j : Nat} {a : α} (h : l[j]? = some a) : L2.atI l (j : Int) = some a := atI_nat h
theorem atI_in {α : Type} {l : List α} {i : Int} (h0 : 0 ≤ i) (h1 : i < l.length) : ∃ a ∈ l, L2.atI l i = some a := by
  obtain ⟨j, rfl⟩ := Int.eq_ofNat_of_zero_le h0
  have hj : j < l.length := by omega
  exact ⟨l[j], List.getElem_mem hj, at_nat (List.getElem?_eq_getElem hj)⟩
def As (n : Nat) (x : Str) : Prop := x.length ≤ n ∧ ∀ c ∈ x.cps.toList, c < 128
theorem As.mono {n m : Nat} {x : Str} (h : As n x) (hn : n ≤ m) : As m x := ⟨Nat.le_trans h.1 hn, h.2⟩
theorem As.app {n m : Nat} {x y : Str} (h : As n x) (h' : As m y) : As (n + m) (x ++ y) := by
  refine ⟨by rw [len_app]; have := h.1; have := h'.1; omega, fun c hc => ?_⟩
  have : c ∈ (x.cps ++ y.cps).toList := hc
  rw [Array.toList_append, List.mem_append] at this
  exact this.elim (h.2 c) (h'.2 c)
theorem As.cut {n : Nat} {x : Str} (h : As n x) (lo hi : Option Int) : As n (cutS x lo hi) := by
  refine ⟨?_, fun c hc => ?_⟩
  · have h1 : x.cps.size ≤ n := h.1
    show (((x.cps.toList.drop (HT.sIx x.length 0 lo)).take (HT.sIx x.length x.length hi - HT.sIx x.length 0 lo)).toArray).size ≤ n
    simp
    omega
  · have hc : c ∈ (x.cps.toList.drop (HT.sIx x.length 0 lo)).take (HT.sIx x.length x.length hi - HT.sIx x.length 0 lo) := by simpa [cutS] using hc
    exact h.2 c (List.mem_of_mem_drop (List.mem_of_mem_take hc))
theorem As.ok {n : Nat} {x : Str} (h : As n x) : PyData.strOk x = true := ok_mem.mpr fun c hc => Nat.lt_trans (h.2 c hc) (by decide)
theorem As.times {n : Nat} {x : Str} (h : As n x) (k : Nat) : As (k * n) (timesS x k) := by
  refine ⟨?_, fun c hc => ?_⟩
  · show ((List.replicate k x.cps.toList).flatten).toArray.size ≤ _
    have h1 : x.cps.size ≤ n := h.1
    simp
    exact Nat.mul_le_mul_left k h1
  · have hc : c ∈ (List.replicate k x.cps.toList).flatten := by simpa [timesS] using hc
    obtain ⟨l, hl, hc⟩ := List.mem_flatten.mp hc
    rw [(List.mem_replicate.mp hl).2] at hc
    exact h.2 c hc
/-- single signs joined -/
theorem join_signs : ∀ cs : List Nat, Str.join "" (cs.map fun c => (⟨#[c]⟩ : Str)) = ⟨cs.toArray⟩
  | [] => rfl
  | [c] => rfl
  | c :: d :: r => by
    have ih := join_signs (d :: r)
    show (⟨#[c]⟩ : Str) ++ "" ++ Str.join "" ((d :: r).map fun c => (⟨#[c]⟩ : Str)) = _
    rw [ih]
    show (⟨(#[c] ++ (Str.ofString "").cps) ++ (d :: r).toArray⟩ : Str) = _
    have : (Str.ofString "").cps = #[] := by decide +kernel
    rw [this]
    simp
theorem txt_join_signs (cs : List Nat) : Txt.join "" (cs.map fun c => (⟨#[c]⟩ : Str)) = ⟨cs.toArray⟩ := (StrLaws.glued_eq_join _ _).trans (join_signs cs)
theorem contains_sign (x : Str) (c : Nat) : Txt.contains x ⟨#[c]⟩ = decide (c ∈ x.cps.toList) := by
  unfold Txt.contains
  rw [empty_one, Bool.not_not]
end PD
namespace PD
variable [PD.TabL]
open PySem PySem.Spec PyProof.Rows L2

def sortOk (ds : List D) : Bool := arePy ds && ((pys ds).all fun d => (pys ds).all fun d' => PySem.W.alike d d') && depsB 50 ds && small ds.length &&
  (ds.all (fun d => match d with | .tup (_ :: _) => true | _ => false) || ds.all (fun d => match d with | .tup _ => false | .tp _ => false | .non => false | _ => true))
def sortL (ds : List D) : List D := ds.mergeSort fun a b => PySem.W.dataLe false D.py a b
def sortedD : List D → Option Vl
  | [.lst ds] => if sortOk ds = true then some (.fr (.lst (sortL ds))) else none
  | _ => none
def rSortedD (K : PySem.W.Frag) : List V → Hp → VK → Prop := fun xs H Q => ∃ (a : Addr) (bs : List (V × PyData)), xs = [.ref a] ∧ SqL K H a (bs.map (·.1)) ∧ (∀ b ∈ bs, Dp K H b.1 b.2) ∧ PySem.W.AllAlike (bs.map (·.2)) ∧ PySem.W.Sortable (bs.map (·.2)) ∧ bs.length ≤ sizeLine ∧ (∀ b ∈ bs, b.2.depth ≤ 50) ∧
  ∀ p, H p = none → Q (.ref p) (upd H p (.lst ((bs.mergeSort (PySem.W.dataLe false (·.2))).map (·.1))))
section
variable {X : Cx}
theorem each_of {pins : List (Addr × Obj)} {σ : L2.St} {H : Hp} {s : Shared} (I : Inv X pins σ H s) : ∀ {bs : List (V × PyData)} {us : List Value}, Vals (bs.map (·.1)) us → (∀ b ∈ bs, Dp X.K H b.1 b.2) →
    PySem.W.EachIs (fun (v : Value) (b : V × PyData) => RelV b.1 v) us bs ∧ PySem.W.EachIs (fun (v : Value) (b : V × PyData) => ∃ as, Reads s.heap v b.2 as) us bs
  | [], _, .nil, _ => ⟨.nil, .nil⟩
  | b :: bs, _, .cons r t, h => by
    obtain ⟨h1, h2⟩ := each_of I (bs := bs) t fun b hb => h b (List.mem_cons_of_mem _ hb)
    exact ⟨.cons r h1, .cons (Dp.reads I _ _ _ (h b (List.mem_cons_self ..)) r) h2⟩
theorem vals_of_each : ∀ {us : List Value} {bs : List (V × PyData)}, PySem.W.EachIs (fun (v : Value) (b : V × PyData) => RelV b.1 v) us bs → Vals (bs.map (·.1)) us
  | _, _, .nil => .nil
  | _, _, .cons r t => .cons r (vals_of_each t)
theorem cr_sortedD {k : Nat} (hr : Room k X.A) : CallR X (.builtin "sorted") (rSortedD X.K) := by
  intro pins s σ H xs us Q I r h
  obtain ⟨a, bs, rfl, hs, hd, al, so, hz, dp, q⟩ := h
  obtain ⟨its, rv, hl, _⟩ := I.list hs
  rw [Vals.ref1 r]
  obtain ⟨h1, h2⟩ := each_of I rv hd
  refine PySem.W.sorted_data (enc := fun b : V × PyData => b.2) hl.isList h1 h2 al so hz (fun b hb => ?_) fun out hlen ho => ?_
  · have := dp b hb
    have := hr.un
    omega
  · obtain ⟨ep, he'⟩ := PyProof.Rows.sortedAll_at s.heap its out.toArray
    have hv := vals_of_each ho
    have hlen2 : ((bs.mergeSort (PySem.W.dataLe false (·.2))).map (·.1)).length ≤ sizeLine := by
      rw [List.length_map, (List.mergeSort_perm _ _).length_eq]
      exact hz
    exact ⟨.ref _, upd H (s.heap.objs.size + 1) (.lst ((bs.mergeSort (PySem.W.dataLe false (·.2))).map (·.1))), I.laid (t' := s.toks) (fun _ _ => PyProof.Rows.sortedAll_old) (Nat.le_succ _) ⟨hlen2, out, ep, hv, he'⟩, rfl, q _ (I.hok.fresh (Nat.le_succ _))⟩
end
theorem rps_zip {K : PySem.W.Frag} {B H : Hp} (s : Same B H) : ∀ {ds : List D} {vs : List V}, Rps K B ds vs → arePy ds = true → ∃ zs : List (V × D), zs.map (·.1) = vs ∧ zs.map (·.2) = ds ∧ ∀ z ∈ zs, Rp K B z.2 z.1 ∧ Dp K H z.1 z.2.py
  | _, _, .nil, _ => ⟨[], rfl, rfl, fun _ h => by simp at h⟩
  | d :: ds, v :: vs, .cons r t, n => by
    have n : d.isPy = true ∧ arePy ds = true := by simpa [arePy] using n
    obtain ⟨zs, h1, h2, h3⟩ := rps_zip s t n.2
    refine ⟨(v, d) :: zs, by rw [List.map_cons, h1], by rw [List.map_cons, h2], fun z hz => ?_⟩
    rcases List.mem_cons.mp hz with rfl | hz
    · exact ⟨r, r.dp s n.1⟩
    · exact h3 z hz
theorem rps_of_zip {K : PySem.W.Frag} {B : Hp} : ∀ {zs : List (V × D)}, (∀ z ∈ zs, Rp K B z.2 z.1) → Rps K B (zs.map (·.2)) (zs.map (·.1))
  | [], _ => .nil
  | z :: zs, h => .cons (h z (List.mem_cons_self ..)) (rps_of_zip fun y hy => h y (List.mem_cons_of_mem _ hy))
theorem depthAll_mem : ∀ {ds : List PyData} {d : PyData}, d ∈ ds → d.depth ≤ PyData.depthAll ds
  | x :: xs, d, h => by
    simp only [PyData.depthAll]
    rcases List.mem_cons.mp h with rfl | h
    · omega
    · have := depthAll_mem h
      omega
theorem ca_sorted {g : G0} : CaI g (.builtin "sorted") sortedD := by
  refine ⟨rSortedD g.K, fun c X hX => by rw [← hX.eK]; exact cr_sortedD hX.room, fun A B H vs env xs ds res Q S rr e q => ?_⟩
  unfold sortedD at e
  split at e
  · rename_i ds0
    split at e
    · rename_i ok
      cases e
      unfold sortOk at ok
      simp only [Bool.and_eq_true] at ok
      obtain ⟨⟨⟨⟨o1, o2⟩, o3⟩, o4⟩, o5⟩ := ok
      obtain ⟨x, rfl, r1⟩ := pr1 rr
      obtain ⟨a, us, rfl, ha, ra⟩ := r1.lst S.same
      obtain ⟨zs, z1, z2, z3⟩ := rps_zip S.same ra o1
      subst z1 z2
      have ep : (zs.map fun z => (z.1, z.2.py)).map (·.2) = pys (zs.map (·.2)) := by
        rw [pys_map, List.map_map, List.map_map]
        rfl
      refine ⟨a, zs.map fun z => (z.1, z.2.py), rfl, ?_, fun b hb => ?_, ?_, ?_, ?_, fun b hb => ?_, fun p hp => ?_⟩
      · rw [List.map_map]
        exact .of ha
      · obtain ⟨z, hz, rfl⟩ := List.mem_map.mp hb
        exact (z3 z hz).2
      · rw [ep]
        intro d hd d' hd'
        exact List.all_eq_true.mp (List.all_eq_true.mp o2 d hd) d' hd'
      · rw [ep, pys_map]
        rcases Bool.or_eq_true_iff.mp o5 with o | o
        · refine .inl fun d hd => ?_
          obtain ⟨e, he, rfl⟩ := List.mem_map.mp hd
          have := List.all_eq_true.mp o e he
          split at this
          · rename_i x r
            exact ⟨x.py, pys r, by simp [D.py, pys]⟩
          · cases this
        · refine .inr fun d hd => ?_
          obtain ⟨e, he, rfl⟩ := List.mem_map.mp hd
          have := List.all_eq_true.mp o e he
          have hpy := o1
          rw [arePy_all] at hpy
          have hpe := List.all_eq_true.mp hpy e he
          cases e <;> simp [D.py, D.isPy] at this hpe ⊢
      · rw [List.length_map]
        have := of_decide_eq_true o4
        rw [List.length_map] at this
        exact this
      · obtain ⟨z, hz, rfl⟩ := List.mem_map.mp hb
        have h1 := of_decide_eq_true o3
        have h2 : z.2.py ∈ pys (zs.map (·.2)) := by
          rw [pys_map]
          exact List.mem_map.mpr ⟨z.2, List.mem_map.mpr ⟨z, hz, rfl⟩, rfl⟩
        have h3 := depthAll_mem h2
        show z.2.py.depth ≤ 50
        omega
      · have e1 : ((zs.map fun z => (z.1, z.2.py)).mergeSort (PySem.W.dataLe false (·.2))) = (zs.mergeSort (PySem.W.dataLe false fun z => z.2.py)).map fun z => (z.1, z.2.py) :=
          (List.map_mergeSort (f := fun z : V × D => (z.1, z.2.py)) (fun a _ b _ => rfl)).symm
        have e2 : sortL (zs.map (·.2)) = (zs.mergeSort (PySem.W.dataLe false fun z => z.2.py)).map (·.2) :=
          (List.map_mergeSort (f := fun z : V × D => z.2) (fun a _ b _ => rfl)).symm
        rw [e1, List.map_map]
        have hr : Rps g.K B (sortL (zs.map (·.2))) ((zs.mergeSort (PySem.W.dataLe false fun z => z.2.py)).map (·.1)) := by
          rw [e2]
          exact rps_of_zip fun z hz => (z3 z ((List.mergeSort_perm _ _).mem_iff.mp hz)).1
        exact q B _ _ (Same.refl _) (.lst S hp hr)
    · cases e
  · cases e
end PD
namespace PD
variable [PD.TabL]
open PySem PySem.Spec PyProof.Rows L2

def zipD (xs ys : List D) : List D := List.zipWith (fun x y => D.tup [x, y]) xs ys
def mZip (ms : M (List Vl)) : M (List D) := bd ms fun rs => bd (frzs rs) fun ds => match ds with
  | [.lst a, .lst b] => rt (zipD a b)
  | [.tup a, .tup b] => rt (zipD a b)
  | [.tp a, .tp b] => rt (zipD a b)
  | [.tp a, .tup b] => rt (zipD a b)
  | [.tup a, .tp b] => rt (zipD a b)
  | _ => fun _ => none
def enumD (k : Nat) : List D → List D
  | [] => []
  | d :: ds => .tup [.int (k : Nat), d] :: enumD (k + 1) ds
def mEnum (m : M Vl) : M (List D) := bd m fun r => bd (frz r.hold) fun d => match d with
  | .lst ds => rt (enumD 0 ds)
  | _ => fun _ => none
theorem zipD_get {xs ys : List D} {i : Nat} : (zipD xs ys)[i]? = match xs[i]?, ys[i]? with
    | some x, some y => some (.tup [x, y])
    | _, _ => none := by
  unfold zipD
  rw [List.getElem?_zipWith]
  cases xs[i]? <;> cases ys[i]? <;> rfl
section
variable {K : PySem.W.Frag} {A : Anc}
theorem wd_zipL {B0 : Hp} {a b : Addr} {xs ys : List V} {ds es : List D} (h : SqL K B0 a xs) (h' : SqL K B0 b ys) (r : Rps K B0 ds xs) (r' : Rps K B0 es ys) : WD K (Itz K a b) B0 (zipD ds es) := by
  have hl := r.length
  have hl' := r'.length
  have hz : (zipD ds es).length = min xs.length ys.length := by
    unfold zipD
    rw [List.length_zipWith, hl, hl']
  refine ⟨fun i H B hi s1 s2 => ?_, fun H B s1 s2 => ?_, fun i H B x H' hi s1 s2 y => ?_⟩
  · rw [hz] at hi
    have h1 : i < xs.length := by omega
    have h2 : i < ys.length := by omega
    exact ⟨xs, ys, xs[i], ys[i], sameL s2 (sameL s1 h), sameL s2 (sameL s1 h'), List.getElem?_eq_getElem h1, List.getElem?_eq_getElem h2⟩
  · exact ⟨xs, ys, sameL s2 (sameL s1 h), sameL s2 (sameL s1 h'), by rw [hz]; omega⟩
  · obtain ⟨T, u, v, rfl, nT, rfl, f1, f2⟩ := y
    have e1 := f1 _ (sameL s2 (sameL s1 h))
    have e2 := f2 _ (sameL s2 (sameL s1 h'))
    obtain ⟨d, g1, r1⟩ := r.getV e1
    obtain ⟨e, g2, r2⟩ := r'.getV e2
    refine ⟨.tup [d, e], by rw [zipD_get, g1, g2], .inr (.inl ⟨T, [u, v], [d, e], rfl, nT, rfl, rfl, .cons (r1.mono s1) (.cons (r2.mono s1) .nil)⟩)⟩
theorem wd_zipT {B0 : Hp} {a b : Addr} {xs ys : List V} {ds es : List D} (h : SqT K B0 a xs) (h' : SqT K B0 b ys) (r : Rps K B0 ds xs) (r' : Rps K B0 es ys) : WD K (RZ.ItzT K a b) B0 (zipD ds es) := by
  have hl := r.length
  have hl' := r'.length
  have hz : (zipD ds es).length = min xs.length ys.length := by
    unfold zipD
    rw [List.length_zipWith, hl, hl']
  refine ⟨fun i H B hi s1 s2 => ?_, fun H B s1 s2 => ?_, fun i H B x H' hi s1 s2 y => ?_⟩
  · rw [hz] at hi
    have h1 : i < xs.length := by omega
    have h2 : i < ys.length := by omega
    exact ⟨xs, ys, xs[i], ys[i], sameT s2 (sameT s1 h), sameT s2 (sameT s1 h'), List.getElem?_eq_getElem h1, List.getElem?_eq_getElem h2⟩
  · exact ⟨xs, ys, sameT s2 (sameT s1 h), sameT s2 (sameT s1 h'), by rw [hz]; omega⟩
  · obtain ⟨T, u, v, rfl, nT, rfl, f1, f2⟩ := y
    have e1 := f1 _ (sameT s2 (sameT s1 h))
    have e2 := f2 _ (sameT s2 (sameT s1 h'))
    obtain ⟨d, g1, r1⟩ := r.getV e1
    obtain ⟨e, g2, r2⟩ := r'.getV e2
    refine ⟨.tup [d, e], by rw [zipD_get, g1, g2], .inr (.inl ⟨T, [u, v], [d, e], rfl, nT, rfl, rfl, .cons (r1.mono s1) (.cons (r2.mono s1) .nil)⟩)⟩
theorem si_zip {t : TA} {ms : M (List Vl)} (h : SAX K A t ms) : SIX K A (RZ.iZipA K t) (mZip ms) := fun σ τ B H env pe env' ds R S hl e q => by
  obtain ⟨rs, e1, h1, f1⟩ := bd_inv e
  obtain ⟨es, e2, h2, f2⟩ := bd_inv f1
  refine h σ τ B H env pe e1 rs _ S hl h1 fun B1 H1 vs s1 hl1 S1 hr => ?_
  obtain ⟨B2, s2, S2, hl2, rr⟩ := frzs_ok S1 hl1 hr h2
  split at f2
  · rename_i a b
    cases f2
    obtain ⟨x, y, rfl, r1, r2⟩ := rps2 rr
    cases r1 with
    | lst p1 r1 =>
      cases r2 with
      | lst p2 r2 => exact ⟨_, _, _, _, rfl, .inl ⟨.of (S2.same _ _ p1), .of (S2.same _ _ p2), q B2 H1 _ (s1.trans s2) hl2 S2 (wd_zipL (.of p1) (.of p2) r1 r2)⟩⟩
  · rename_i a b
    cases f2
    obtain ⟨x, y, rfl, r1, r2⟩ := rps2 rr
    cases r1 with
    | tup p1 r1 =>
      cases r2 with
      | tup p2 r2 => exact ⟨_, _, _, _, rfl, .inr ⟨(p1.same S2.same).sq, (p2.same S2.same).sq, q B2 H1 _ (s1.trans s2) hl2 S2 (wd_zipT p1.sq p2.sq r1 r2)⟩⟩
  · rename_i a b
    cases f2
    obtain ⟨x, y, rfl, r1, r2⟩ := rps2 rr
    cases r1 with
    | tp p1 _ r1 =>
      cases r2 with
      | tp p2 _ r2 => exact ⟨_, _, _, _, rfl, .inr ⟨(.inl (.inr ⟨_, S2.same _ _ p1⟩)), (.inl (.inr ⟨_, S2.same _ _ p2⟩)), q B2 H1 _ (s1.trans s2) hl2 S2 (wd_zipT (.inl (.inr ⟨_, p1⟩)) (.inl (.inr ⟨_, p2⟩)) r1 r2)⟩⟩
  · rename_i a b
    cases f2
    obtain ⟨x, y, rfl, r1, r2⟩ := rps2 rr
    cases r1 with
    | tp p1 _ r1 =>
      cases r2 with
      | tup p2 r2 => exact ⟨_, _, _, _, rfl, .inr ⟨(.inl (.inr ⟨_, S2.same _ _ p1⟩)), (p2.same S2.same).sq, q B2 H1 _ (s1.trans s2) hl2 S2 (wd_zipT (.inl (.inr ⟨_, p1⟩)) p2.sq r1 r2)⟩⟩
  · rename_i a b
    cases f2
    obtain ⟨x, y, rfl, r1, r2⟩ := rps2 rr
    cases r1 with
    | tup p1 r1 =>
      cases r2 with
      | tp p2 _ r2 => exact ⟨_, _, _, _, rfl, .inr ⟨(p1.same S2.same).sq, (.inl (.inr ⟨_, S2.same _ _ p2⟩)), q B2 H1 _ (s1.trans s2) hl2 S2 (wd_zipT p1.sq (.inl (.inr ⟨_, p2⟩)) r1 r2)⟩⟩
  · cases f2
end
section
variable {g : G0} {c : Ct} {a b : Expr} {m n : M Vl} {ms : M (List Vl)} {p pos tpos : Pos} {elts : List Expr} {kk : Nat}
theorem ei_zip (hg : GlC c "zip") (hm : g.mg "zip" = none) (h : EA g c [a, b] ms) (pl : Pl a) (pl2 : Pl b) : EI g c (.Tuple elts kk tpos) (.Call (.Name "zip" p) [a, b] [] pos) (mZip ms) := by
  obtain ⟨t, h1, h2⟩ := h
  exact ⟨RZ.iZipA g.K t, fun X hX => by
    rw [← hX.eK]
    exact RZ.pi_zipA (gl_of hX hg) (by rw [hX.em]; exact hm) (h1 X hX) (pl [b] X.env) (by rw [pl2 [] X.env]; rfl), fun A => si_zip (h2 A)⟩
end

def hb : Vl → M Vl
  | .bo i => bd (frz (.bo i)) fun d => rt (.im d)
  | r => rt r
def sPF (i j : Nat) (m n : M Vl) : SM := fun e => match bd m hb e with
  | some (r1, e1) => match bd n hb e1 with
    | some (r2, e2) => match gN j r2 e2 with
      | some (_, e3) => match gN i r1 e3 with
        | some (_, e4) => some (.nx, e4)
        | none => none
      | none => none
    | none => none
  | none => none
def sPF3 (i j l : Nat) (m n o : M Vl) : SM := fun e => match bd m hb e with
  | some (r1, e1) => match bd n hb e1 with
    | some (r2, e2) => match bd o hb e2 with
      | some (r3, e3) => match gN l r3 e3 with
        | some (_, e4) => match gN j r2 e4 with
          | some (_, e5) => match gN i r1 e5 with
            | some (_, e6) => some (.nx, e6)
            | none => none
          | none => none
        | none => none
      | none => none
    | none => none
  | none => none
section
variable {K : PySem.W.Frag} {A : Anc}
/-- what waits for its slot -/
inductive Pd (K : PySem.W.Frag) (B : Hp) : Vl → V → L2.St → Env → Prop
  | im {d : D} {v : V} : Rp K B d v → Pd K B (.im d) v [] []
  | fr {d : D} {v : V} : Pd K B (.fr d) v [some v] [.ow d]
theorem Pd.mono {B B' : Hp} {r : Vl} {v : V} {τ : L2.St} {pe : Env} (s : Same B B') (h : Pd K B r v τ pe) : Pd K B' r v τ pe := by
  cases h with
  | im r => exact .im (r.mono s)
  | fr => exact .fr
theorem Pd.vr {B H : Hp} {σ τ0 τ : L2.St} {env pe0 pe : Env} {r : Vl} {v : V} (h : Pd K B r v τ pe) (S : SR K A B H (σ ++ (τ0 ++ τ)) (env ++ (pe0 ++ pe))) : VR K A B H σ τ0 env pe0 r v := by
  cases h with
  | im r => exact ⟨by simpa using S, r⟩
  | fr =>
    show SR K A B H (σ ++ τ0 ++ [some v]) (env ++ pe0 ++ [.ow _])
    rw [List.append_assoc, List.append_assoc]
    exact S
theorem hb_ok {B H : Hp} {σ τ : L2.St} {env pe env' : Env} {r r' : Vl} {v : V} (h : VR K A B H σ τ env pe r v) (hl : σ.length = env.length) (e : hb r env = some (r', env')) :
    ∃ B' τ' pe', Same B B' ∧ σ.length = env'.length ∧ Pd K B' r' v τ' pe' ∧ SR K A B' H (σ ++ (τ ++ τ')) (env' ++ (pe ++ pe')) := by
  cases r with
  | im d =>
    cases e
    exact ⟨B, [], [], Same.refl _, hl, .im h.2, by simpa using h.1⟩
  | fr d =>
    cases e
    have h : SR K A B H (σ ++ τ ++ [some v]) (env ++ pe ++ [.ow d]) := h
    rw [List.append_assoc, List.append_assoc] at h
    exact ⟨B, [some v], [.ow d], Same.refl _, hl, .fr, h⟩
  | bo i =>
    obtain ⟨d, e1, h1, f1⟩ := bd_inv e
    cases f1
    obtain ⟨B1, s1, S1, hl1, rr⟩ := frz_ok h.1 hl (show Hv K B σ (.bo i) v from h.2) h1
    exact ⟨B1, [], [], s1, hl1, .im rr, by simpa using S1⟩
theorem ss_pf {i j : Nat} {t1 t2 : TE} {m n : M Vl} (hij : i ≠ j) (h1 : SEX K A t1 m) (h2 : SEX K A t2 n) : SSX K A (tPar i j (tCons t1 (tCons t2 tNil))) (sPF i j m n) := fun σ B H env env' fl E S e q => by
  unfold sPF at e
  split at e
  · rename_i r1 e1 g1
    split at e
    · rename_i r2 e2 g2
      split at e
      · rename_i e3 g3
        split at e
        · rename_i e4 g4
          cases e
          obtain ⟨q1, f1, a1, b1⟩ := bd_inv g1
          obtain ⟨q2, f2, a2, b2⟩ := bd_inv g2
          refine h1 σ [] B H env [] f1 q1 _ S.nil_app S.len a1 fun B1 H1 v s1 hl1 hv => ?_
          obtain ⟨B2, τ1, pe1, s2, hl2, P1, S2⟩ := hb_ok hv hl1 b1
          refine h2 σ ([] ++ τ1) B2 H1 e1 ([] ++ pe1) f2 q2 _ S2 hl2 a2 fun B3 H3 w s3 hl3 hw => ?_
          obtain ⟨B4, τ2, pe2, s4, hl4, P2, S4⟩ := hb_ok hw hl3 b2
          refine ⟨v, w, rfl, ?_⟩
          rw [List.set_comm _ _ hij]
          refine sg_name (K := K) (A := A) σ ([] ++ τ1) B4 H3 e2 ([] ++ pe1) e3 r2 w (fun σ' H' => E.nx (σ'.set i (some v)) H') (P2.vr S4) hl4 g3 fun σ1 B5 H5 s5 hl5 _ S5 => ?_
          have P1' := P1.mono ((s3.trans s4).trans s5)
          exact sg_name (K := K) (A := A) σ1 [] B5 H5 e3 [] _ r1 v E.nx (P1'.vr S5) hl5 g4 fun σ2 B6 H6 s6 hl6 _ S6 => q σ2 B6 H6 (((s1.trans s2).trans (s3.trans s4)).trans (s5.trans s6)) S6.app_nil
        · cases e
      · cases e
    · cases e
  · cases e
theorem ss_pf3 {i j l : Nat} {t1 t2 t3 : TE} {m n o : M Vl} (hij : i ≠ j) (hil : i ≠ l) (hjl : j ≠ l) (h1 : SEX K A t1 m) (h2 : SEX K A t2 n) (h3 : SEX K A t3 o) : SSX K A (tPar3 i j l (tCons t1 (tCons t2 (tCons t3 tNil)))) (sPF3 i j l m n o) := fun σ B H env env' fl E S e q => by
  unfold sPF3 at e
  split at e
  · rename_i r1 e1 g1
    split at e
    · rename_i r2 e2 g2
      split at e
      · rename_i r3 e3 g3
        split at e
        · rename_i e4 g4
          split at e
          · rename_i e5 g5
            split at e
            · rename_i e6 g6
              cases e
              obtain ⟨q1, f1, a1, b1⟩ := bd_inv g1
              obtain ⟨q2, f2, a2, b2⟩ := bd_inv g2
              obtain ⟨q3, f3, a3, b3⟩ := bd_inv g3
              refine h1 σ [] B H env [] f1 q1 _ S.nil_app S.len a1 fun B1 H1 v s1 hl1 hv => ?_
              obtain ⟨B2, τ1, pe1, s2, hl2, P1, S2⟩ := hb_ok hv hl1 b1
              refine h2 σ ([] ++ τ1) B2 H1 e1 ([] ++ pe1) f2 q2 _ S2 hl2 a2 fun B3 H3 w s3 hl3 hw => ?_
              obtain ⟨B4, τ2, pe2, s4, hl4, P2, S4⟩ := hb_ok hw hl3 b2
              refine h3 σ ([] ++ τ1 ++ τ2) B4 H3 e2 ([] ++ pe1 ++ pe2) f3 q3 _ S4 hl4 a3 fun B5 H5 u s5 hl5 hu => ?_
              obtain ⟨B6, τ3, pe3, s6, hl6, P3, S6⟩ := hb_ok hu hl5 b3
              refine ⟨v, w, u, rfl, ?_⟩
              rw [List.set_comm (i := i) _ _ hij, List.set_comm (i := i) _ _ hil, List.set_comm (i := j) _ _ hjl]
              refine sg_name (K := K) (A := A) σ ([] ++ τ1 ++ τ2) B6 H5 e3 ([] ++ pe1 ++ pe2) e4 r3 u (fun σ' H' => E.nx ((σ'.set j (some w)).set i (some v)) H') (P3.vr S6) hl6 g4 fun σ1 B7 H7 s7 hl7 _ S7 => ?_
              have P2' := P2.mono ((s5.trans s6).trans s7)
              refine sg_name (K := K) (A := A) σ1 ([] ++ τ1) B7 H7 e4 ([] ++ pe1) e5 r2 w (fun σ' H' => E.nx (σ'.set i (some v)) H') (P2'.vr S7) hl7 g5 fun σ2 B8 H8 s8 hl8 _ S8 => ?_
              have P1' := P1.mono (((s3.trans s4).trans ((s5.trans s6).trans s7)).trans s8)
              exact sg_name (K := K) (A := A) σ2 [] B8 H8 e5 [] _ r1 v E.nx (P1'.vr S8) hl8 g6 fun σ3 B9 H9 s9 hl9 _ S9 => q σ3 B9 H9 (((s1.trans s2).trans (s3.trans s4)).trans (((s5.trans s6).trans (s7.trans s8)).trans s9)) S9.app_nil
            · cases e
          · cases e
        · cases e
      · cases e
    · cases e
  · cases e
end
section
variable {g : G0} {c : Ct} {a b d : Expr} {m n o : M Vl} {pos px py pz pt : Pos} {kt k2 pt2}
theorem es_pf {i j : Nat} {x y : Str} (hi : c.N[i]? = some x) (hj : c.N[j]? = some y) (hij : i ≠ j) (hx : c.sc.names.lookup x = some .local) (hy : c.sc.names.lookup y = some .local) (h : EE g c a m) (h' : EE g c b n) (pl : Pl a) (pl2 : Pl b)
    (hw : ∀ env : PySem.Env, env.scope = c.sc → swappedStores [.Tuple [.Name x px, .Name y py] kt pt] (.Tuple [a, b] k2 pt2) env = pure (some [x, y]))
    (hs : ∀ env : PySem.Env, swapsWithSole [.Tuple [.Name x px, .Name y py] kt pt] (.Tuple [a, b] k2 pt2) pos.line env = pure false) :
    ES g c (.Assign [.Tuple [.Name x px, .Name y py] kt pt] (.Tuple [a, b] k2 pt2) pos) (sPF i j m n) := by
  obtain ⟨t, h1, k1⟩ := h
  obtain ⟨u, h2, k2⟩ := h'
  exact ⟨_, fun X hX => ps_par hX.calm hX.nd (by rw [hX.eN]; exact hi) (by rw [hX.eN]; exact hj) hij (by rw [hX.es]; exact hx) (by rw [hX.es]; exact hy) (pa_cons (h1 X hX) (pa_cons (h2 X hX) pa_nil (pl2 [] X.env)) (pl [b] X.env)) (hw X.env hX.es) (hs X.env), fun A => ss_pf hij (k1 A) (k2 A)⟩
theorem es_pf3 {i j l : Nat} {x y z : Str} (hi : c.N[i]? = some x) (hj : c.N[j]? = some y) (hk : c.N[l]? = some z) (hij : i ≠ j) (hil : i ≠ l) (hjl : j ≠ l) (hx : c.sc.names.lookup x = some .local) (hy : c.sc.names.lookup y = some .local) (hz : c.sc.names.lookup z = some .local) (h : EE g c a m) (h' : EE g c b n) (h'' : EE g c d o) (pl : Pl a) (pl2 : Pl b) (pl3 : Pl d)
    (hw : ∀ env : PySem.Env, env.scope = c.sc → swappedStores [.Tuple [.Name x px, .Name y py, .Name z pz] kt pt] (.Tuple [a, b, d] k2 pt2) env = pure (some [x, y, z]))
    (hs : ∀ env : PySem.Env, swapsWithSole [.Tuple [.Name x px, .Name y py, .Name z pz] kt pt] (.Tuple [a, b, d] k2 pt2) pos.line env = pure false) :
    ES g c (.Assign [.Tuple [.Name x px, .Name y py, .Name z pz] kt pt] (.Tuple [a, b, d] k2 pt2) pos) (sPF3 i j l m n o) := by
  obtain ⟨t, h1, k1⟩ := h
  obtain ⟨u, h2, k2⟩ := h'
  obtain ⟨w, h3, k3⟩ := h''
  exact ⟨_, fun X hX => ps_par3 hX.calm hX.nd (by rw [hX.eN]; exact hi) (by rw [hX.eN]; exact hj) (by rw [hX.eN]; exact hk) hij hil hjl (by rw [hX.es]; exact hx) (by rw [hX.es]; exact hy) (by rw [hX.es]; exact hz)
    (pa_cons (h1 X hX) (pa_cons (h2 X hX) (pa_cons (h3 X hX) pa_nil (pl3 [] X.env)) (pl2 [d] X.env)) (pl [b, d] X.env)) (hw X.env hX.es) (hs X.env), fun A => ss_pf3 hij hil hjl (k1 A) (k2 A) (k3 A)⟩
end
end PD
namespace PD
variable [PD.TabL]
open PySem PySem.Spec PyProof.Rows L2

def putD {κ : Type} [DecidableEq κ] (es : List (κ × D)) (k : κ) (d : D) : List (κ × D) :=
  if (es.any fun e => decide (e.1 = k)) = true then es.map (fun e => if e.1 = k then (e.1, d) else e) else es ++ [(k, d)]
def mergeD (es more : List (Key × D)) : List (Key × D) := more.foldl (fun acc e => putD acc e.1 e.2) es
section
variable {K : PySem.W.Frag} {B H : Hp} {κ : Type} [DecidableEq κ]
def Kp (K : PySem.W.Frag) (B : Hp) (es : List (κ × D)) (kvs : List (κ × V)) : Prop := Paired (fun e kv => e.1 = kv.1 ∧ Rp K B e.2 kv.2) es kvs
theorem kp_of : ∀ {es : List (κ × D)} {kvs : List (κ × V)}, es.map (·.1) = kvs.map (·.1) → Rps K B (es.map (·.2)) (kvs.map (·.2)) → Kp K B es kvs
  | [], [], _, _ => .nil
  | [], _ :: _, h, _ => by simp at h
  | _ :: _, [], h, _ => by simp at h
  | e :: es, kv :: kvs, h, .cons r t => by
    have h : e.1 = kv.1 ∧ es.map (·.1) = kvs.map (·.1) := by simpa using h
    exact .cons ⟨h.1, r⟩ (kp_of h.2 t)
theorem kp_to : ∀ {es : List (κ × D)} {kvs : List (κ × V)}, Kp K B es kvs → es.map (·.1) = kvs.map (·.1) ∧ Rps K B (es.map (·.2)) (kvs.map (·.2))
  | _, _, .nil => ⟨rfl, .nil⟩
  | e :: es, kv :: kvs, .cons h t => by
    obtain ⟨h1, h2⟩ := kp_to (es := es) (kvs := kvs) t
    exact ⟨by rw [List.map_cons, List.map_cons, h.1, h1], .cons h.2 h2⟩
theorem kp_any {k : κ} : ∀ {es : List (κ × D)} {kvs : List (κ × V)}, Kp K B es kvs → (es.any fun e => decide (e.1 = k)) = (kvs.any fun e => decide (e.1 = k))
  | _, _, .nil => rfl
  | e :: es, kv :: kvs, .cons h t => by
    rw [List.any_cons, List.any_cons, h.1, kp_any (es := es) (kvs := kvs) t]
theorem kp_map {k : κ} {d : D} {v : V} (r : Rp K B d v) : ∀ {es : List (κ × D)} {kvs : List (κ × V)}, Kp K B es kvs → Kp K B (es.map fun e => if e.1 = k then (e.1, d) else e) (kvs.map fun e => if e.1 = k then (e.1, v) else e)
  | _, _, .nil => .nil
  | e :: es, kv :: kvs, .cons h t => by
    refine .cons ?_ (kp_map r (es := es) (kvs := kvs) t)
    dsimp only
    rw [h.1]
    by_cases z : kv.1 = k
    · rw [if_pos z, if_pos z]
      exact ⟨rfl, r⟩
    · rw [if_neg z, if_neg z]
      exact ⟨h.1, h.2⟩
theorem kp_app : ∀ {es fs : List (κ × D)} {kvs us : List (κ × V)}, Kp K B es kvs → Kp K B fs us → Kp K B (es ++ fs) (kvs ++ us)
  | _, _, _, _, .nil, q => q
  | _, _, _, _, .cons h t, q => .cons h (kp_app t q)
theorem kp_put {k : κ} {d : D} {v : V} (r : Rp K B d v) {es : List (κ × D)} {kvs : List (κ × V)} (h : Kp K B es kvs) : Kp K B (putD es k d) (putK kvs k v) := by
  unfold putD putK
  rw [kp_any (k := k) h]
  split
  · exact kp_map r h
  · exact kp_app h (.cons ⟨rfl, r⟩ .nil)
end
def eDk : M Vl := rt (.fr (.dk []))
def eDt : M Vl := rt (.fr (.dt []))
section
variable {g : G0} {c : Ct} {pos : Pos}
def setDk : D → D → D → Option D
  | .dk es, k, d => match keyD k with
    | some k => if lessL es.length = true then some (.dk (putD es k d)) else none
    | none => none
  | .dt es, .tup ks, d => match keysD ks with
    | some k => if lessL es.length = true then some (.dt (putD es k d)) else none
    | none => none
  | .lst ds, .int i, d => match ixN ds.length i with
    | some j => some (.lst (ds.set j d))
    | none => none
  | _, _, _ => none
def rSetAny : V → V → V → Hp → (Hp → Prop) → Prop := fun o i v H Q => rSetL o i v H Q ∨ ∃ a H', o = .ref a ∧ DPut H a i v H' ∧ Q H'
theorem set_any {X : Cx} {k : Nat} (hr : Room k X.A) : PSet X rSetAny := by
  intro pins s σ H o i v ov iv u Q I ro ri rv h
  rcases h with h | ⟨a, H', rfl, hd, q⟩
  · exact set_list pins s σ H o i v ov iv u Q I ro ri rv h
  · obtain rfl : ov = Value.ref a := ro
    exact d_setItem (by have := hr.un; omega) I hd ri rv fun s' I' => ⟨H', I', q⟩
theorem se_any : SeI g setDk := ⟨rSetAny, fun c X hX => set_any hX.room, fun B H p k v d0 dk d d' Q s c r rv e q => by
  unfold setDk at e
  split at e
  · rename_i es kd d0
    split at e
    · rename_i key hk
      split at e
      · rename_i hl
        cases e
        have ek := r.key hk
        subst ek
        generalize ho : H p = o at c
        cases c with
        | @dk kvs es h1 h2 =>
          have hp := kp_to (kp_put (k := key) rv (kp_of h1 h2))
          have hlen : kvs.length < sizeLine := by
            have := of_decide_eq_true hl
            have e2 := congrArg List.length h1
            rw [List.length_map, List.length_map] at e2
            omega
          exact .inr ⟨p, _, rfl, .k ho hlen, q _ (.dk hp.1 hp.2)⟩
      · cases e
    · cases e
  · rename_i es ks d0
    split at e
    · rename_i key hk
      split at e
      · rename_i hl
        cases e
        obtain ⟨b, xs, rfl, hb, _, rr⟩ := r.tup s
        have ek := rr.keys hk
        subst ek
        generalize ho : H p = o at c
        cases c with
        | @dt kvs es h1 h2 =>
          have hp := kp_to (kp_put (k := key) rv (kp_of h1 h2))
          have hlen : kvs.length < sizeLine := by
            have := of_decide_eq_true hl
            have e2 := congrArg List.length h1
            rw [List.length_map, List.length_map] at e2
            omega
          exact .inr ⟨p, _, rfl, .inr ⟨kvs, key, b, ho, rfl, hb, hlen, rfl⟩, q _ (.dt hp.1 hp.2)⟩
      · cases e
    · cases e
  · rename_i ds i
    split at e
    · rename_i j hj
      cases e
      obtain ⟨ys, hy, rr⟩ := cont_lst c
      exact .inl ⟨p, ys, i, j, rfl, r.int, hy, by rw [← rr.length]; exact hj, q _ (.lst (rr.set rv j))⟩
    · cases e
  · cases e⟩
end

def truD : D → Option Bool
  | .non => some false
  | .bl b => some b
  | .int i => some (i != 0)
  | .str x => if small x.length = true then some ((x.length : Int) != 0) else none
  | .lst ds => some (!ds.isEmpty)
  | .tup ds => some (!ds.isEmpty)
  | .sc ns => some (!ns.isEmpty)
  | .dk es => some (!es.isEmpty)
  | _ => none
def mT (m : M Vl) : M Bool := bd m fun r e => match cnt e r.hold with
  | some d => match truD d with
    | some b => some (b, e)
    | none => none
  | none => none
section
variable {K : PySem.W.Frag} {A : Anc}
end
end PD
namespace PD
variable [PD.TabL]
open PySem PySem.Spec PyProof.Rows L2

section
variable {K : PySem.W.Frag} {A : Anc}
theorem ss_pfc {i j : Nat} {t1 t2 : TE} {m n : M Vl} (hij : i ≠ j) (h1 : SEX K A t1 m) (h2 : SEX K A t2 n) :
    SSX K A (tAsg (tTup (tCons t1 (tCons t2 tNil))) (gTup K 2 (gCons (gName i) (gCons (gName j) gNil)))) (sPF i j m n) := fun σ B H env env' fl E S e q => by
  unfold sPF at e
  split at e
  · rename_i r1 e1 g1
    split at e
    · rename_i r2 e2 g2
      split at e
      · rename_i e3 g3
        split at e
        · rename_i e4 g4
          cases e
          obtain ⟨q1, f1, a1, b1⟩ := bd_inv g1
          obtain ⟨q2, f2, a2, b2⟩ := bd_inv g2
          refine h1 σ [] B H env [] f1 q1 _ S.nil_app S.len a1 fun B1 H1 v s1 hl1 hv => ?_
          obtain ⟨B2, τ1, pe1, s2, hl2, P1, S2⟩ := hb_ok hv hl1 b1
          refine h2 σ ([] ++ τ1) B2 H1 e1 ([] ++ pe1) f2 q2 _ S2 hl2 a2 fun B3 H3 w s3 hl3 hw => ?_
          obtain ⟨B4, τ2, pe2, s4, hl4, P2, S4⟩ := hb_ok hw hl3 b2
          refine ⟨by show 2 ≤ sizeLine; decide, fun p hp => ?_⟩
          refine ⟨p, [v, w], rfl, .inl (.inl upd_same), rfl, v, [w], rfl, w, [], rfl, rfl, ?_⟩
          rw [List.set_comm _ _ hij]
          have S4' := S4.laid (o := .tup [v, w]) hp
          refine sg_name (K := K) (A := A) σ ([] ++ τ1) B4 _ e2 ([] ++ pe1) e3 r2 w (fun σ' H' => E.nx (σ'.set i (some v)) H') (P2.vr S4') hl4 g3 fun σ1 B5 H5 s5 hl5 _ S5 => ?_
          have P1' := P1.mono ((s3.trans s4).trans s5)
          exact sg_name (K := K) (A := A) σ1 [] B5 H5 e3 [] _ r1 v E.nx (P1'.vr S5) hl5 g4 fun σ2 B6 H6 s6 hl6 _ S6 => q σ2 B6 H6 (((s1.trans s2).trans (s3.trans s4)).trans (s5.trans s6)) S6.app_nil
        · cases e
      · cases e
    · cases e
  · cases e
end
section
variable {g : G0} {c : Ct} {a b d : Expr} {m n o : M Vl} {pos px py pz pt pt2 : Pos} {kt k2 : Nat}
theorem pgn {X : Cx} (hX : Cok g c X) {i : Nat} {x : Str} (hN : c.N[i]? = some x) (hv : Loc c.sc x) (hf : c.fb x = true) : PG X (.Name x pos) (gName i) :=
  pg_name hX.nd (by rw [hX.eN]; exact hN) (by rw [hX.es]; exact hv) (.inl (hX.fn x hf))
theorem es_pfc {i j : Nat} {x y : Str} (hi : c.N[i]? = some x) (hj : c.N[j]? = some y) (hij : i ≠ j) (hx : Loc c.sc x) (hy : Loc c.sc y) (fx : c.fb x = true) (fy : c.fb y = true) (h : EE g c a m) (h' : EE g c b n) (pl : Pl a) (pl2 : Pl b)
    (hw : ∀ env : PySem.Env, env.scope = c.sc → swappedStores [.Tuple [.Name x px, .Name y py] kt pt] (.Tuple [a, b] k2 pt2) env = pure none)
    (hs : ∀ env : PySem.Env, swapsWithSole [.Tuple [.Name x px, .Name y py] kt pt] (.Tuple [a, b] k2 pt2) pos.line env = pure false) :
    ES g c (.Assign [.Tuple [.Name x px, .Name y py] kt pt] (.Tuple [a, b] k2 pt2) pos) (sPF i j m n) := by
  obtain ⟨t, h1, k1⟩ := h
  obtain ⟨u, h2, k2⟩ := h'
  exact ⟨tAsg (tTup (tCons t (tCons u tNil))) (gTup g.K 2 (gCons (gName i) (gCons (gName j) gNil))), fun X hX => ps_asg (pe_tup (pa_cons (h1 X hX) (pa_cons (h2 X hX) pa_nil (pl2 [] X.env)) (pl [b] X.env)))
    (by
      rw [← hX.eK]
      exact pg_tup hX.calm (pgs_cons (pgn hX hi hx fx) (pgs_cons (pgn hX hj hy fy) pgs_nil))) (hs X.env) (hw X.env hX.es), fun A => ss_pfc hij (k1 A) (k2 A)⟩
end
end PD
namespace PD
variable [PD.TabL]
open PySem PySem.Spec PyProof.Rows L2

def D.atom : D → Bool
  | .non => true
  | .bl _ => true
  | .int _ => true
  | .str _ => true
  | .txt _ => true
  | _ => false
def Sl.frz : Sl → Sl
  | .ow d => .im d
  | .io _ d => .im d
  | .bk _ _ => .em
  | s => s
def eTmp (m : M Vl) : M Vl := fun e => match m (e.map Sl.frz) with
  | some (.im d, _) => if d.atom = true then some (.im d, e) else none
  | _ => none
section
variable {K : PySem.W.Frag}
theorem Rp.atom {B B' : Hp} {d : D} {v : V} (h : d.atom = true) (r : Rp K B d v) : Rp K B' d v := by
  cases r with
  | non => exact .non
  | bl b => exact .bl b
  | int i => exact .int i
  | str x ho => exact .str x ho
  | txt x => exact .txt x
  | _ => cases h
open Classical in
theorem SR.allFrz {A : Anc} {B H : Hp} {σ : L2.St} {env : Env} (S : SR K A B H σ env) : ∃ B', Same B B' ∧ SR K ⟨noT H, B', fun _ => none, fun _ => none⟩ B' H σ (env.map Sl.frz) := by
  let held : Addr → Prop := fun a => ∃ (i : Nat) (sl : Sl), env[i]? = some sl ∧ sl.mut = true ∧ σ[i]? = some (some (.ref a))
  let B' : Hp := fun a => match B a with
    | some o => some o
    | none => if held a then H a else none
  have hB : Same B B' := fun a o e => by
    show (match B a with | some o => some o | none => if held a then H a else none) = some o
    rw [e]
  have hH : Same B' H := fun a o e => by
    have e : (match B a with | some o => some o | none => if held a then H a else none) = some o := e
    cases hb : B a with
    | some u =>
      rw [hb] at e
      cases e
      exact S.same _ _ hb
    | none =>
      rw [hb] at e
      dsimp only at e
      split at e
      · exact e
      · cases e
  have atp : ∀ (p : Addr) (i : Nat) (sl : Sl), env[i]? = some sl → sl.mut = true → σ[i]? = some (some (V.ref p)) → B' p = H p := fun p i sl e1 m e2 => by
    show (match B p with | some o => some o | none => if held p then H p else none) = H p
    cases hb : B p with
    | some u => exact (S.same _ _ hb).symm
    | none =>
      show (if held p then H p else none) = H p
      rw [if_pos ⟨i, sl, e1, m, e2⟩]
  refine ⟨B', hB, ⟨by rw [List.length_map]; exact S.len, hH, fun i sl ov e1 e2 => ?_, fun i j p s1 s2 ne e1 e2 m1 _ _ _ => ?_, fun a o e _ => ⟨noT_some e, .inl rfl⟩, fun a ⟨j, h⟩ => (by cases h), fun a ⟨j, h⟩ => (by cases h), fun p hp => ⟨(S.tab p hp).1, ?_, noT_tab hp⟩⟩⟩
  · rw [List.getElem?_map] at e1
    cases he : env[i]? with
    | none =>
      rw [he] at e1
      cases e1
    | some sl0 =>
      rw [he] at e1
      cases e1
      cases S.slot i sl0 ov he e2 with
      | em => exact .em
      | im r => exact .im (r.mono hB)
      | ow b h c => exact .im (c.frozen hB (atp _ i _ he rfl e2))
      | io h c => exact .im (c.frozen hB (atp _ i _ he rfl e2))
      | bk _ _ _ _ => exact .em
  · rw [List.getElem?_map] at e1
    cases he : env[i]? with
    | none =>
      rw [he] at e1
      cases e1
    | some sl0 =>
      rw [he] at e1
      cases e1
      cases sl0 <;> cases m1
  · show (match B p.1 with | some o => some o | none => if held p.1 then H p.1 else none) = none
    rw [(S.tab p hp).2.1]
    dsimp only
    refine if_neg fun ⟨i, sl, e1, m, e2⟩ => ?_
    obtain ⟨q, d, u, f1, _, f2, f3⟩ := (S.slot i sl _ e1 e2).held m
    cases f1
    exact S.tC (by rw [f2]; exact f3) (List.mem_map.mpr ⟨p, hp, rfl⟩)
/-- .. a test -/
def mTmp (m : M Bool) : M Bool := fun e => match m (e.map Sl.frz) with
  | some (b, _) => some (b, e)
  | none => none
theorem st_tmp {t : TT} {m : M Bool} (h : ∀ A, STX K A t m) (A : Anc) : STX K A t (mTmp m) := fun σ τ B H env pe env' b Q S hl e q => by
  unfold mTmp at e
  split at e
  · rename_i b1 e1 hm
    cases e
    obtain ⟨B', sB, S'⟩ := S.allFrz
    rw [List.map_append] at S'
    refine h ⟨noT H, B', fun _ => none, fun _ => none⟩ σ τ B' H (env.map Sl.frz) (pe.map Sl.frz) e1 b Q S' (by rw [List.length_map]; exact hl) hm fun B2 H2 s2 hl2 S2 => ?_
    have keep : ∀ a o, a ∉ tbA → H a = some o → H2 a = some o := fun a o nt ho => (S2.anc a o ((noT_of nt).trans ho) fun ⟨j, z⟩ => by cases z).1
    refine q B H2 (Same.refl _) hl ⟨S.len, fun a o ho => keep a o (S.tB ho) (S.same a o ho), fun i sl ov e1 e2 => ?_, S.inj, fun a o ho n => ?_, fun a ha' => ?_, S.ioh, fun p hp => ⟨(S2.tab p hp).1, (S.tab p hp).2⟩⟩
    · refine (S.slot i sl ov e1 e2).grow (Same.refl _) (fun p d _ _ c => ?_) (fun _ _ _ z => z)
      obtain ⟨o, ho⟩ := c.some
      rw [ho, keep p o (S.tC c) ho]
    · obtain ⟨h1, h2⟩ := S.anc a o ho n
      exact ⟨keep a o (S.tH ho) h1, h2⟩
    · obtain ⟨h1, o, h2, nt⟩ := S.iob a ha'
      obtain ⟨oh, eh⟩ := S.ioh a ha'
      exact ⟨h1, o, keep a o (S.tH eh) h2, nt⟩
  · cases e
theorem et_tmp {g : G0} {c : Ct} {e : Expr} {m : M Bool} (h : ET g c e m) : ET g c e (mTmp m) := by
  obtain ⟨t, h1, h2⟩ := h
  exact ⟨t, h1, fun A => st_tmp h2 A⟩
end
end PD
namespace PD
variable [PD.TabL]
open PySem PySem.Spec PyProof.Rows L2
end PD
namespace PD
variable [PD.TabL]
open PySem PySem.Spec PyProof.Rows L2
/-- a name's letters -/
def LT : List Nat := (Str.ofString "abcdefghijklmnopqrstuvwxyz").cps.toList
theorem LT_len : LT.length = 26 := by decide +kernel
theorem LT_nodup : LT.Nodup := by decide +kernel
theorem LT_low : ∀ c ∈ LT, c < 128 := by decide +kernel
theorem LT_small : small (Str.ofString "abcdefghijklmnopqrstuvwxyz").length = true := by decide +kernel
theorem strsD_signs : ∀ cs : List Nat, strsD (cs.map fun c => D.str ⟨#[c]⟩) = some (cs.map fun c => (⟨#[c]⟩ : Str))
  | [] => rfl
  | c :: r => by
    show (strsD (r.map fun c => D.str ⟨#[c]⟩)).map ((⟨#[c]⟩ : Str) :: ·) = _
    rw [strsD_signs r]
    rfl
theorem sum_signs : ∀ cs : List Nat, ((cs.map fun c => (⟨#[c]⟩ : Str)).map (·.length)).sum = cs.length
  | [] => rfl
  | c :: r => by
    rw [List.map_cons, List.map_cons, List.sum_cons, sum_signs r, List.length_cons]
    show 1 + r.length = _
    omega
theorem join_sem (cs : List Nat) (h : cs.length ≤ 1000) (hc : ∀ c ∈ cs, c < 128) : joinD [.str (Str.ofString ""), .lst (cs.map fun c => D.str ⟨#[c]⟩)] = some (.im (.str ⟨cs.toArray⟩)) := by
  have e0 : (Str.ofString "").length = 0 := by decide +kernel
  have e1 : (cs.map fun c => (⟨#[c]⟩ : Str)).length = cs.length := List.length_map ..
  have e2 : Txt.join (Str.ofString "") (cs.map fun c => (⟨#[c]⟩ : Str)) = ⟨cs.toArray⟩ := txt_join_signs cs
  have e3 : PyData.strOk ⟨cs.toArray⟩ = true := ok_mem.mpr fun c h => Nat.lt_trans (hc c (by simpa using h)) (by decide)
  have e4 : cs.length ≤ 16777216 := by omega
  unfold joinD
  simp only [strsD_signs, sum_signs, e0, e2, e3, Nat.mul_zero, Nat.add_zero, e4, decide_true, Bool.and_self, if_true]
theorem letter_at (r : Int) (h0 : 0 ≤ r) (h1 : r < 26) : ∃ c ∈ LT, L2.atI (Str.ofString "abcdefghijklmnopqrstuvwxyz").cps.toList r = some c := by
  obtain ⟨c, hc, e⟩ := atI_in (l := LT) h0 (by rw [LT_len]; omega)
  exact ⟨c, hc, e⟩
theorem As.small {n : Nat} {x : Str} (h : As n x) (hn : n ≤ 1000000) : PD.small x.length = true := small_lit (by have := h.1; omega)
theorem rng_get {lo : Int} {m i : Nat} {d : D} (h : (rngD lo m)[i]? = some d) : i < m ∧ d = .int (lo + i) := by
  unfold rngD at h
  rw [List.getElem?_map] at h
  cases h1 : (List.range m)[i]? with
  | none =>
    rw [h1] at h
    cases h
  | some j =>
    rw [h1] at h
    cases h
    obtain ⟨h2, h3⟩ := List.getElem?_eq_some_iff.mp h1
    rw [List.getElem_range] at h3
    exact ⟨by simpa using h2, by rw [h3]⟩
theorem rng_len (lo : Int) (m : Nat) : (rngD lo m).length = m := by simp [rngD]
end PD
namespace PD
variable [PD.TabL]
open PySem PySem.Spec PyProof.Rows L2
class K1 (α : Type) where
  run : α → Prop
class K2 (α : Type) where
  run : α → Env → Prop
class KB where
  t : Prop
  f : Prop
class KC where
  p : Prop
def W {α : Type} (m : Env → Option (α × Env)) (e : Env) [K : K2 α] : Prop := ∃ a e', m e = some (a, e') ∧ K.run a e'
def WO {α : Type} (o : Option α) [K : K1 α] : Prop := ∃ a, o = some a ∧ K.run a
def WB (b : Bool) [K : KB] : Prop := if b = true then K.t else K.f
def WC (c : Bool) [K : KC] : Prop := c = true ∧ K.p
section
variable {α β : Type} {e : Env}
theorem W_eq {m : Env → Option (α × Env)} {Q : α → Env → Prop} : @W _ m e ⟨Q⟩ = (match m e with | some p => Q p.1 p.2 | none => False) := by
  unfold W
  cases h : m e with
  | none => simp
  | some p => exact propext ⟨fun ⟨a, e', h1, h2⟩ => by cases h1; exact h2, fun h => ⟨_, _, rfl, h⟩⟩
theorem WO_eq {o : Option α} {K : α → Prop} : @WO _ o ⟨K⟩ = (match o with | some p => K p | none => False) := by
  unfold WO
  cases o with
  | none => simp
  | some p => exact propext ⟨fun ⟨a, h1, h2⟩ => by cases h1; exact h2, fun h => ⟨_, rfl, h⟩⟩
theorem WO_some {a : α} {K : α → Prop} : @WO _ (some a) ⟨K⟩ = K a := WO_eq
theorem WO_none {K : α → Prop} : @WO _ none ⟨K⟩ = False := WO_eq
theorem WO_if {c : Bool} {a : α} {K : α → Prop} (h : c = true) (q : K a) : @WO _ (if c = true then some a else none) ⟨K⟩ := by
  rw [if_pos h, WO_some]
  exact q
theorem WO_of {o : Option α} {a : α} {K : α → Prop} (h : o = some a) (q : K a) : @WO _ o ⟨K⟩ := ⟨a, h, q⟩
theorem W_mono {m : Env → Option (α × Env)} {Q Q' : α → Env → Prop} (h : @W _ m e ⟨Q⟩) (q : ∀ a e', Q a e' → Q' a e') : @W _ m e ⟨Q'⟩ := by
  obtain ⟨a, e', h1, k⟩ := h
  exact ⟨a, e', h1, q a e' k⟩
theorem WB_true {P R : Prop} : @WB true ⟨P, R⟩ = P := if_pos rfl
theorem WB_false {P R : Prop} : @WB false ⟨P, R⟩ = R := if_neg Bool.false_ne_true
theorem WB_cases {b : Bool} {P R : Prop} (h : b = true → P) (h' : b = false → R) : @WB b ⟨P, R⟩ := by
  cases b with
  | true => exact (WB_true (P := P) (R := R)).mpr (h rfl)
  | false => exact (WB_false (P := P) (R := R)).mpr (h' rfl)
theorem WB_cases' {p : Prop} [Decidable p] {P R : Prop} (h : p → P) (h' : ¬ p → R) : @WB (decide p) ⟨P, R⟩ := WB_cases (fun z => h (of_decide_eq_true z)) (fun z => h' (of_decide_eq_false z))
theorem WB_eq {b : Bool} {P R : Prop} : @WB b ⟨P, R⟩ = (match b with | true => P | false => R) := by
  cases b with
  | true => exact WB_true
  | false => exact WB_false
theorem WC_eq {c : Bool} {P : Prop} : @WC c ⟨P⟩ = (match c with | true => P | false => False) := by
  unfold WC
  cases c <;> simp
theorem WC_true {P : Prop} : @WC true ⟨P⟩ = P := propext ⟨fun h => h.2, fun h => ⟨rfl, h⟩⟩
theorem WC_mk {c : Bool} {P : Prop} (h : c = true) (q : P) : @WC c ⟨P⟩ := ⟨h, q⟩
theorem WC_dec {p : Prop} [Decidable p] {P : Prop} (h : p) (q : P) : @WC (decide p) ⟨P⟩ := ⟨decide_eq_true h, q⟩
theorem small_eq (n : Nat) : small n = decide (n ≤ 16777216) := rfl
theorem lessL_eq (n : Nat) : lessL n = decide (n < 16777216) := rfl

theorem W_rt {a : α} {Q : α → Env → Prop} : @W _ (rt a) e ⟨Q⟩ = Q a e := W_eq
theorem W_bd {m : M α} {f : α → M β} {Q : β → Env → Prop} : @W _ (bd m f) e ⟨Q⟩ = @W _ m e ⟨fun a e' => @W _ (f a) e' ⟨Q⟩⟩ := by
  simp only [W_eq, bd]
  cases m e <;> rfl
end

/-- a slot set anew -/
def setO : Env → Nat → Sl → Option Env
  | [], _, _ => none
  | _ :: l, 0, x => some (x :: l)
  | a :: l, n + 1, x => (setO l n x).map (a :: ·)
theorem setO_ok : ∀ (e : Env) (i : Nat) (x : Sl), (if i < e.length then some (e.set i x) else none) = setO e i x
  | [], i, x => by simp [setO]
  | a :: l, 0, x => by simp [setO]
  | a :: l, n + 1, x => by
    rw [setO, ← setO_ok l n x]
    by_cases h : n < l.length
    · rw [if_pos h, if_pos (by rw [List.length_cons]; omega)]
      rfl
    · rw [if_neg h, if_neg (by rw [List.length_cons]; omega)]
      rfl
def frzO (e : Env) (i : Nat) : Option (D × Env) := frz (.bo i) e
theorem frzO_eq (e : Env) (i : Nat) : frzO e i = match e[i]? with
  | some (.im d) => some (d, e)
  | some (.ow d) => some (d, e.set i (.im d))
  | some (.io _ _) => none
  | some (.bk _ _) => none
  | some .em => none
  | none => none := by
  simp only [frzO, frz]
  cases h : e[i]? with
  | none => rfl
  | some sl => cases sl <;> rfl

section
variable {e : Env}
theorem W_gN_im {i : Nat} {d : D} {Q : Unit → Env → Prop} : @W _ (gN i (.im d)) e ⟨Q⟩ = @WO _ (setO e i (.im d)) ⟨fun e' => Q () e'⟩ := by
  rw [W_eq, WO_eq, ← setO_ok]
  unfold gN
  by_cases h : i < e.length
  · rw [if_pos h, if_pos h]
  · rw [if_neg h, if_neg h]
theorem W_gN_fr {i : Nat} {d : D} {Q : Unit → Env → Prop} : @W _ (gN i (.fr d)) e ⟨Q⟩ = @WO _ (setO e i (.ow d)) ⟨fun e' => Q () e'⟩ := by
  rw [W_eq, WO_eq, ← setO_ok]
  unfold gN
  by_cases h : i < e.length
  · rw [if_pos h, if_pos h]
  · rw [if_neg h, if_neg h]
theorem frz_len {v : Vl} {d : D} {e e' : Env} (h : frz v e = some (d, e')) : e'.length = e.length := by
  unfold frz at h
  split at h
  · cases h; rfl
  · cases h; rfl
  · split at h
    · cases h; rfl
    · cases h; simp
    · cases h
theorem W_gN_bo {i j : Nat} {Q : Unit → Env → Prop} : @W _ (gN i (.bo j)) e ⟨Q⟩ = @WO _ (frzO e j) ⟨fun p => @WO _ (setO p.2 i (.im p.1)) ⟨fun e' => Q () e'⟩⟩ := by
  rw [W_eq, WO_eq]
  have h0 : frz (.bo j) e = frzO e j := rfl
  unfold gN
  dsimp only
  rw [h0]
  cases h : frzO e j with
  | none =>
    by_cases h : i < e.length
    · rw [if_pos h]
    · rw [if_neg h]
  | some p =>
    have hl : p.2.length = e.length := frz_len (v := .bo j) (d := p.1) (h0.trans h)
    dsimp only
    rw [WO_eq, ← setO_ok, hl]
    by_cases h : i < e.length
    · rw [if_pos h, if_pos h]
    · rw [if_neg h, if_neg h]
theorem W_frz_im {d : D} {Q : D → Env → Prop} : @W _ (frz (.im d)) e ⟨Q⟩ = Q d e := W_eq
theorem W_frz_fr {d : D} {Q : D → Env → Prop} : @W _ (frz (.fr d)) e ⟨Q⟩ = Q d e := W_eq
theorem W_frz_bo {i : Nat} {Q : D → Env → Prop} : @W _ (frz (.bo i)) e ⟨Q⟩ = @WO _ (frzO e i) ⟨fun p => Q p.1 p.2⟩ := by
  simp only [W_eq, WO_eq, frzO]
  cases frz (.bo i) e <;> rfl
theorem W_frzs_nil {Q : List D → Env → Prop} : @W _ (frzs []) e ⟨Q⟩ = Q [] e := W_eq
theorem W_frzs_cons {v : Vl} {r : List Vl} {Q : List D → Env → Prop} : @W _ (frzs (v :: r)) e ⟨Q⟩ = @W _ (frz v) e ⟨fun d e1 => @W _ (frzs r) e1 ⟨fun ds e2 => Q (d :: ds) e2⟩⟩ := by
  show @W _ (bd (frz v) _) e ⟨Q⟩ = _
  simp only [W_eq, bd]
  cases frz v e with
  | none => rfl
  | some p =>
    dsimp only
    cases frzs r p.2 <;> rfl
theorem W_eC {d : D} {Q : Vl → Env → Prop} : @W _ (eC d) e ⟨Q⟩ = Q (.im d) e := W_eq
theorem W_eV {i : Nat} {Q : Vl → Env → Prop} : @W _ (eV i) e ⟨Q⟩ = @WO _ e[i]? ⟨fun sl => match sl with | .em => False | .im d => Q (.im d) e | .ow _ => Q (.bo i) e | .io _ _ => Q (.bo i) e | .bk _ _ => False⟩ := by
  rw [W_eq, WO_eq]
  unfold eV
  cases e[i]? with
  | none => rfl
  | some sl => cases sl <;> rfl
theorem W_cN {Q : List Vl → Env → Prop} : @W _ cN e ⟨Q⟩ = Q [] e := W_eq
theorem W_cA {m : M Vl} {ms : M (List Vl)} {Q : List Vl → Env → Prop} : @W _ (cA m ms) e ⟨Q⟩ = @W _ m e ⟨fun r e1 => @W _ ms e1 ⟨fun rs e2 => Q (r.hold :: rs) e2⟩⟩ := by
  unfold cA
  simp only [W_eq, bd]
  cases m e with
  | none => rfl
  | some p =>
    dsimp only
    cases ms p.2 <;> rfl
theorem W_eP {f : List D → Option Vl} {ms : M (List Vl)} {Q : Vl → Env → Prop} : @W _ (eP f ms) e ⟨Q⟩ = @W _ ms e ⟨fun rs e' => @WO _ (cnts e' rs) ⟨fun ds => @WO _ (f ds) ⟨fun v => match v with | .im d => Q (.im d) e' | .fr d => Q (.fr d) e' | .bo _ => False⟩⟩⟩ := by
  unfold eP
  simp only [W_eq, WO_eq, bd]
  cases ms e with
  | none => rfl
  | some p =>
    obtain ⟨rs, e1⟩ := p
    dsimp only
    cases cnts e1 rs with
    | none => rfl
    | some ds =>
      dsimp only
      cases f ds with
      | none => rfl
      | some v => cases v <;> rfl
theorem W_eM {T : String} {f : List D → Option Vl} {m : M Vl} {ms : M (List Vl)} {Q : Vl → Env → Prop} : @W _ (eM T f m ms) e ⟨Q⟩ = @W _ m e ⟨fun r e1 => @W _ (ckT T r.hold) e1 ⟨fun _ e2 => @W _ ms e2 ⟨fun rs e3 => @WO _ (cnts e3 (r.hold :: rs)) ⟨fun ds => @WO _ (f ds) ⟨fun v => match v with | .im d => Q (.im d) e3 | .fr d => Q (.fr d) e3 | .bo _ => False⟩⟩⟩⟩⟩ := by
  unfold eM
  simp only [W_eq, WO_eq, bd]
  cases m e with
  | none => rfl
  | some p =>
    obtain ⟨r, e1⟩ := p
    dsimp only
    cases ckT T r.hold e1 with
    | none => rfl
    | some q =>
      obtain ⟨q, e2⟩ := q
      dsimp only
      cases ms e2 with
      | none => rfl
      | some w =>
        obtain ⟨w, e3⟩ := w
        dsimp only
        cases cnts e3 (r.hold :: w) with
        | none => rfl
        | some ds =>
          dsimp only
          cases f ds with
          | none => rfl
          | some v => cases v <;> rfl
theorem W_ckT {T : String} {r : Vl} {Q : Unit → Env → Prop} : @W _ (ckT T r) e ⟨Q⟩ = @WO _ (cnt e r) ⟨fun d => @WC (tyT T d) ⟨Q () e⟩⟩ := by
  unfold ckT
  simp only [W_eq, WO_eq]
  cases cnt e r with
  | none => rfl
  | some d =>
    dsimp only
    unfold WC
    cases tyT T d <;> simp
def putO (e : Env) (i : Nat) (d : D) : Option Env := some (putC e i d)
theorem W_eU {T : String} {f : D → List D → Option (D × D)} {m : M Vl} {ms : M (List Vl)} {Q : Vl → Env → Prop} : @W _ (eU T f m ms) e ⟨Q⟩ =
    @W _ m e ⟨fun r e0 => match r with
      | .bo i => @W _ (ckT T (.bo i)) e0 ⟨fun _ e1 => @W _ ms e1 ⟨fun rs e2 => @W _ (frzs rs) e2 ⟨fun ds e3 => @WO _ (mutAtD e3 i) ⟨fun d0 => @WO _ (f d0 ds) ⟨fun p => @WO _ (putO e3 i p.1) ⟨fun e4 => Q (.im p.2) e4⟩⟩⟩⟩⟩⟩
      | .im _ => False
      | .fr _ => False⟩ := by
  unfold eU
  simp only [W_eq, WO_eq, bd]
  cases m e with
  | none => rfl
  | some p =>
    obtain ⟨r, e0⟩ := p
    cases r with
    | im d => rfl
    | fr d => rfl
    | bo i =>
      simp only [bd]
      cases ckT T (.bo i) e0 with
      | none => rfl
      | some q =>
        dsimp only
        cases ms q.2 with
        | none => rfl
        | some w =>
          dsimp only
          cases frzs w.1 w.2 with
          | none => rfl
          | some z =>
            dsimp only
            cases mutAtD z.2 i with
            | none => rfl
            | some d0 =>
              dsimp only
              cases f d0 z.1 with
              | none => rfl
              | some x => rfl
theorem W_eTup {ms : M (List Vl)} {Q : Vl → Env → Prop} : @W _ (eTup ms) e ⟨Q⟩ = @W _ ms e ⟨fun rs e1 => @W _ (frzs rs) e1 ⟨fun ds e2 => @WC (small ds.length) ⟨Q (.im (.tup ds)) e2⟩⟩⟩ := by
  unfold eTup
  simp only [W_eq, bd]
  cases ms e with
  | none => rfl
  | some p =>
    dsimp only
    cases frzs p.1 p.2 with
    | none => rfl
    | some q =>
      dsimp only
      unfold WC
      cases small q.1.length <;> simp [rt]
theorem W_eLst {ms : M (List Vl)} {Q : Vl → Env → Prop} : @W _ (eLst ms) e ⟨Q⟩ = @W _ ms e ⟨fun rs e1 => @W _ (frzs rs) e1 ⟨fun ds e2 => @WC (small ds.length) ⟨Q (.fr (.lst ds)) e2⟩⟩⟩ := by
  unfold eLst
  simp only [W_eq, bd]
  cases ms e with
  | none => rfl
  | some p =>
    dsimp only
    cases frzs p.1 p.2 with
    | none => rfl
    | some q =>
      dsimp only
      unfold WC
      cases small q.1.length <;> simp [rt]
theorem W_eDk {Q : Vl → Env → Prop} : @W _ eDk e ⟨Q⟩ = Q (.fr (.dk [])) e := W_eq
theorem W_eDt {Q : Vl → Env → Prop} : @W _ eDt e ⟨Q⟩ = Q (.fr (.dt [])) e := W_eq
theorem W_mB {m : M Vl} {Q : Bool → Env → Prop} : @W _ (mB m) e ⟨Q⟩ = @W _ m e ⟨fun r e' => match r with | .im (.bl b) => Q b e' | _ => False⟩ := by
  unfold mB
  simp only [W_eq, bd]
  cases m e with
  | none => rfl
  | some p =>
    obtain ⟨r, e1⟩ := p
    cases r with
    | im d => cases d <;> rfl
    | fr d => rfl
    | bo i => rfl
theorem W_mT {m : M Vl} {Q : Bool → Env → Prop} : @W _ (mT m) e ⟨Q⟩ = @W _ m e ⟨fun r e' => @WO _ (cnt e' r.hold) ⟨fun d => @WO _ (truD d) ⟨fun b => Q b e'⟩⟩⟩ := by
  unfold mT
  simp only [W_eq, WO_eq, bd]
  cases m e with
  | none => rfl
  | some p =>
    dsimp only
    cases cnt p.2 p.1.hold with
    | none => rfl
    | some d =>
      dsimp only
      cases truD d <;> rfl
theorem W_mNot {m : M Bool} {Q : Bool → Env → Prop} : @W _ (mNot m) e ⟨Q⟩ = @W _ m e ⟨fun b e' => Q (!b) e'⟩ := by
  unfold mNot
  simp only [W_eq, bd]
  cases m e <;> rfl
theorem W_mAnd {m n : M Bool} {Q : Bool → Env → Prop} : @W _ (mAnd m n) e ⟨Q⟩ = @W _ m e ⟨fun b e' => @WB b ⟨@W _ n e' ⟨Q⟩, Q false e'⟩⟩ := by
  unfold mAnd
  simp only [W_eq, bd, WB_eq]
  cases m e with
  | none => rfl
  | some p =>
    obtain ⟨b, e1⟩ := p
    cases b <;> simp only [if_true, Bool.false_eq_true, if_false, rt, W_eq]
theorem W_mOr {m n : M Bool} {Q : Bool → Env → Prop} : @W _ (mOr m n) e ⟨Q⟩ = @W _ m e ⟨fun b e' => @WB b ⟨Q true e', @W _ n e' ⟨Q⟩⟩⟩ := by
  unfold mOr
  simp only [W_eq, bd, WB_eq]
  cases m e with
  | none => rfl
  | some p =>
    obtain ⟨b, e1⟩ := p
    cases b <;> simp only [if_true, Bool.false_eq_true, if_false, rt, W_eq]
theorem W_eNot {m : M Vl} {Q : Vl → Env → Prop} : @W _ (eNot m) e ⟨Q⟩ = @W _ (mB m) e ⟨fun b e' => Q (.im (.bl (!b))) e'⟩ := by
  unfold eNot
  simp only [W_eq, bd]
  cases mB m e <;> rfl
theorem W_eAnd {m n : M Vl} {Q : Vl → Env → Prop} : @W _ (eAnd m n) e ⟨Q⟩ = @W _ (mB m) e ⟨fun b e' => @WB b ⟨@W _ n e' ⟨Q⟩, Q (.im (.bl false)) e'⟩⟩ := by
  unfold eAnd
  simp only [W_eq, bd, WB_eq]
  cases mB m e with
  | none => rfl
  | some p =>
    obtain ⟨b, e1⟩ := p
    cases b <;> simp only [if_true, Bool.false_eq_true, if_false, rt, W_eq]
theorem W_eOr {m n : M Vl} {Q : Vl → Env → Prop} : @W _ (eOr m n) e ⟨Q⟩ = @W _ (mB m) e ⟨fun b e' => @WB b ⟨Q (.im (.bl true)) e', @W _ n e' ⟨Q⟩⟩⟩ := by
  unfold eOr
  simp only [W_eq, bd, WB_eq]
  cases mB m e with
  | none => rfl
  | some p =>
    obtain ⟨b, e1⟩ := p
    cases b <;> simp only [if_true, Bool.false_eq_true, if_false, rt, W_eq]
theorem W_eIf {c : M Bool} {m n : M Vl} {Q : Vl → Env → Prop} : @W _ (eIf c m n) e ⟨Q⟩ = @W _ c e ⟨fun b e' => @WB b ⟨@W _ m e' ⟨Q⟩, @W _ n e' ⟨Q⟩⟩⟩ := by
  unfold eIf
  simp only [W_eq, bd, WB_eq]
  cases c e with
  | none => rfl
  | some p =>
    obtain ⟨b, e1⟩ := p
    cases b <;> simp only [if_true, Bool.false_eq_true, if_false, W_eq]
theorem W_eTmp {m : M Vl} {Q : Vl → Env → Prop} : @W _ (eTmp m) e ⟨Q⟩ = @WO _ (some (e.map Sl.frz)) ⟨fun e0 => @W _ m e0 ⟨fun r _ => match r with | .im d => @WC d.atom ⟨Q (.im d) e⟩ | _ => False⟩⟩ := by
  unfold eTmp
  simp only [W_eq, WO_eq]
  cases m (e.map Sl.frz) with
  | none => rfl
  | some p =>
    obtain ⟨r, e'⟩ := p
    cases r with
    | im d =>
      dsimp only
      unfold WC
      cases d.atom <;> simp
    | fr d => rfl
    | bo i => rfl
theorem W_mTmp {m : M Bool} {Q : Bool → Env → Prop} : @W _ (mTmp m) e ⟨Q⟩ = @WO _ (some (e.map Sl.frz)) ⟨fun e0 => @W _ m e0 ⟨fun b _ => Q b e⟩⟩ := by
  unfold mTmp
  simp only [W_eq, WO_eq]
  cases m (e.map Sl.frz) with
  | none => rfl
  | some p => rfl
theorem W_oN {Q : Option Int → Env → Prop} : @W _ oN e ⟨Q⟩ = Q none e := W_eq
theorem W_oS {m : M Vl} {Q : Option Int → Env → Prop} : @W _ (oS m) e ⟨Q⟩ = @W _ m e ⟨fun r e' => match r with | .im (.int i) => Q (some i) e' | _ => False⟩ := by
  unfold oS
  simp only [W_eq, bd]
  cases m e with
  | none => rfl
  | some p =>
    obtain ⟨r, e1⟩ := p
    cases r with
    | im d => cases d <;> rfl
    | fr d => rfl
    | bo i => rfl
theorem W_eSl {ma : M Vl} {lo hi : M (Option Int)} {Q : Vl → Env → Prop} : @W _ (eSl ma lo hi) e ⟨Q⟩ = @W _ ma e ⟨fun r e1 => @W _ lo e1 ⟨fun l e2 => @W _ hi e2 ⟨fun h e3 => @WO _ (cnt e3 r.hold) ⟨fun d => @WO _ (slD l h d) ⟨fun v => match v with | .im d => Q (.im d) e3 | .fr d => Q (.fr d) e3 | .bo _ => False⟩⟩⟩⟩⟩ := by
  unfold eSl
  simp only [W_eq, WO_eq, bd]
  cases ma e with
  | none => rfl
  | some p =>
    dsimp only
    cases lo p.2 with
    | none => rfl
    | some l =>
      dsimp only
      cases hi l.2 with
      | none => rfl
      | some h =>
        dsimp only
        cases cnt h.2 p.1.hold with
        | none => rfl
        | some d =>
          dsimp only
          cases slD l.1 h.1 d with
          | none => rfl
          | some v => cases v <;> rfl
theorem W_eChain {f h : List D → Option Vl} {ma mb mc : M Vl} {Q : Vl → Env → Prop} : @W _ (eChain f h ma mb mc) e ⟨Q⟩ =
    @W _ ma e ⟨fun ra e1 => @W _ mb e1 ⟨fun rb e2 => @WO _ (cnt e2 ra.hold) ⟨fun da => @WO _ (cnt e2 rb.hold) ⟨fun db => @WO _ (f [da, db]) ⟨fun v => match v with
      | .im (.bl b) => @WB b ⟨@W _ mc e2 ⟨fun rc e3 => @WO _ (cnt e3 rb.hold) ⟨fun db' => @WO _ (cnt e3 rc.hold) ⟨fun dc => @WO _ (h [db', dc]) ⟨fun v => match v with | .im d => Q (.im d) e3 | _ => False⟩⟩⟩⟩, Q (.im (.bl false)) e2⟩
      | _ => False⟩⟩⟩⟩⟩ := by
  unfold eChain
  simp only [W_eq, WO_eq, bd]
  cases ma e with
  | none => rfl
  | some p =>
    dsimp only
    cases mb p.2 with
    | none => rfl
    | some q =>
      dsimp only
      cases cnt q.2 p.1.hold with
      | none => rfl
      | some da =>
        cases cnt q.2 q.1.hold with
        | none => rfl
        | some db =>
          dsimp only
          cases f [da, db] with
          | none => rfl
          | some v =>
            cases v with
            | fr d => rfl
            | bo i => rfl
            | im d =>
              cases d with
              | bl b =>
                cases b with
                | false =>
                  simp only [WB_eq]
                | true =>
                  simp only [WB_eq, W_eq, WO_eq, bd]
                  cases mc q.2 with
                  | none => rfl
                  | some w =>
                    dsimp only
                    cases cnt w.2 q.1.hold with
                    | none => rfl
                    | some db' =>
                      cases cnt w.2 w.1.hold with
                      | none => rfl
                      | some dc =>
                        dsimp only
                        cases h [db', dc] with
                        | none => rfl
                        | some v => cases v <;> rfl
              | _ => rfl
theorem W_sNil {Q : Fl → Env → Prop} : @W _ sNil e ⟨Q⟩ = Q .nx e := W_eq
theorem W_sPass {Q : Fl → Env → Prop} : @W _ sPass e ⟨Q⟩ = Q .nx e := W_eq
theorem W_sBrk {Q : Fl → Env → Prop} : @W _ sBrk e ⟨Q⟩ = Q .bk e := W_eq
theorem W_sCnt {Q : Fl → Env → Prop} : @W _ sCnt e ⟨Q⟩ = Q .ct e := W_eq
theorem W_sRetN {Q : Fl → Env → Prop} : @W _ sRetN e ⟨Q⟩ = Q (.rt (.im .non)) e := W_eq
theorem W_sSeq {m n : SM} {Q : Fl → Env → Prop} : @W _ (sSeq m n) e ⟨Q⟩ = @W _ m e ⟨fun fl e' => match fl with | .nx => @W _ n e' ⟨Q⟩ | .bk => Q .bk e' | .ct => Q .ct e' | .rt r => Q (.rt r) e'⟩ := by
  unfold sSeq
  simp only [W_eq]
  cases m e with
  | none => rfl
  | some p =>
    obtain ⟨fl, e'⟩ := p
    cases fl <;> rfl
theorem W_sExp {m : M Vl} {Q : Fl → Env → Prop} : @W _ (sExp m) e ⟨Q⟩ = @W _ m e ⟨fun _ e' => Q .nx e'⟩ := by
  unfold sExp
  simp only [W_eq]
  cases m e <;> rfl
theorem W_sRet {m : M Vl} {Q : Fl → Env → Prop} : @W _ (sRet m) e ⟨Q⟩ = @W _ m e ⟨fun r e' => Q (.rt r) e'⟩ := by
  unfold sRet
  simp only [W_eq]
  cases m e <;> rfl
theorem W_sIf {c : M Bool} {m n : SM} {Q : Fl → Env → Prop} : @W _ (sIf c m n) e ⟨Q⟩ = @W _ c e ⟨fun b e' => @WB b ⟨@W _ m e' ⟨Q⟩, @W _ n e' ⟨Q⟩⟩⟩ := by
  unfold sIf
  simp only [W_eq, WB_eq]
  cases c e with
  | none => rfl
  | some p =>
    obtain ⟨b, e1⟩ := p
    cases b <;> simp only [if_true, Bool.false_eq_true, if_false, W_eq]
theorem W_sAsg {m : M Vl} {g : Vl → M Unit} {Q : Fl → Env → Prop} : @W _ (sAsg m g) e ⟨Q⟩ = @W _ m e ⟨fun r e1 => @W _ (g r) e1 ⟨fun _ e2 => Q .nx e2⟩⟩ := by
  unfold sAsg
  simp only [W_eq]
  cases m e with
  | none => rfl
  | some p =>
    dsimp only
    cases g p.1 p.2 <;> rfl
theorem W_gsN {Q : Unit → Env → Prop} : @W _ (gsN []) e ⟨Q⟩ = Q () e := W_eq
theorem W_gsC {g : Vl → M Unit} {gs : List D → M Unit} {d : D} {r : List D} {Q : Unit → Env → Prop} : @W _ (gsC g gs (d :: r)) e ⟨Q⟩ = @W _ (g (.im d)) e ⟨fun _ e1 => @W _ (gs r) e1 ⟨Q⟩⟩ := by
  unfold gsC
  simp only [W_eq]
  cases g (.im d) e <;> rfl
theorem W_gT {n : Nat} {gs : List D → M Unit} {ds : List D} {Q : Unit → Env → Prop} : @W _ (gT n gs (.im (.tup ds))) e ⟨Q⟩ = @WC (decide (ds.length = n)) ⟨@W _ (gs ds) e ⟨Q⟩⟩ := by
  unfold gT WC
  simp only [W_eq]
  by_cases h : ds.length = n <;> simp [h]
theorem W_gS {f : D → D → D → Option D} {m mi : M Vl} {r : Vl} {Q : Unit → Env → Prop} : @W _ (gS f m mi r) e ⟨Q⟩ =
    @W _ (frz r.hold) e ⟨fun d e0 => @W _ m e0 ⟨fun r0 e1 => match r0 with
      | .bo i => @W _ mi e1 ⟨fun r1 e2 => @WO _ (mutAtD e2 i) ⟨fun d0 => @WO _ (cnt e2 r1.hold) ⟨fun k => @WO _ (f d0 k d) ⟨fun d' => @WO _ (putO e2 i d') ⟨fun e3 => Q () e3⟩⟩⟩⟩⟩
      | .im _ => False
      | .fr _ => False⟩⟩ := by
  unfold gS
  simp only [W_eq, WO_eq, bd]
  cases frz r.hold e with
  | none => rfl
  | some p =>
    dsimp only
    cases m p.2 with
    | none => rfl
    | some q =>
      obtain ⟨r0, e1⟩ := q
      cases r0 with
      | im d => rfl
      | fr d => rfl
      | bo i =>
        simp only [bd]
        cases mi e1 with
        | none => rfl
        | some w =>
          dsimp only
          cases mutAtD w.2 i with
          | none => rfl
          | some d0 =>
            cases cnt w.2 w.1.hold with
            | none => rfl
            | some k =>
              dsimp only
              cases f d0 k p.1 <;> rfl
theorem W_hb_im {d : D} {Q : Vl → Env → Prop} : @W _ (hb (.im d)) e ⟨Q⟩ = Q (.im d) e := W_eq
theorem W_hb_fr {d : D} {Q : Vl → Env → Prop} : @W _ (hb (.fr d)) e ⟨Q⟩ = Q (.fr d) e := W_eq
theorem W_hb_bo {i : Nat} {Q : Vl → Env → Prop} : @W _ (hb (.bo i)) e ⟨Q⟩ = @W _ (frz (.bo i)) e ⟨fun d e' => Q (.im d) e'⟩ := by
  show @W _ (bd (frz (.bo i)) fun d => rt (.im d)) e ⟨Q⟩ = _
  simp only [W_eq, bd]
  cases frz (.bo i) e <;> rfl
theorem W_sPF {i j : Nat} {m n : M Vl} {Q : Fl → Env → Prop} : @W _ (sPF i j m n) e ⟨Q⟩ = @W _ m e ⟨fun r e0 => @W _ (hb r) e0 ⟨fun r1 e1 => @W _ n e1 ⟨fun s e2 => @W _ (hb s) e2 ⟨fun r2 e3 => @W _ (gN j r2) e3 ⟨fun _ e4 => @W _ (gN i r1) e4 ⟨fun _ e5 => Q .nx e5⟩⟩⟩⟩⟩⟩ := by
  unfold sPF
  simp only [W_eq, bd]
  cases m e with
  | none => rfl
  | some p =>
    dsimp only
    cases hb p.1 p.2 with
    | none => rfl
    | some q =>
      dsimp only
      cases n q.2 with
      | none => rfl
      | some w =>
        dsimp only
        cases hb w.1 w.2 with
        | none => rfl
        | some z =>
          dsimp only
          cases gN j z.1 z.2 with
          | none => rfl
          | some y =>
            dsimp only
            cases gN i q.1 y.2 <;> rfl
theorem W_sPF3 {i j l : Nat} {m n o : M Vl} {Q : Fl → Env → Prop} : @W _ (sPF3 i j l m n o) e ⟨Q⟩ = @W _ m e ⟨fun r e0 => @W _ (hb r) e0 ⟨fun r1 e1 => @W _ n e1 ⟨fun s e2 => @W _ (hb s) e2 ⟨fun r2 e3 => @W _ o e3 ⟨fun t f0 => @W _ (hb t) f0 ⟨fun r3 f1 => @W _ (gN l r3) f1 ⟨fun _ f2 => @W _ (gN j r2) f2 ⟨fun _ e4 => @W _ (gN i r1) e4 ⟨fun _ e5 => Q .nx e5⟩⟩⟩⟩⟩⟩⟩⟩⟩ := by
  unfold sPF3
  simp only [W_eq, bd]
  cases m e with
  | none => rfl
  | some p =>
    dsimp only
    cases hb p.1 p.2 with
    | none => rfl
    | some q =>
      dsimp only
      cases n q.2 with
      | none => rfl
      | some w =>
        dsimp only
        cases hb w.1 w.2 with
        | none => rfl
        | some z =>
          dsimp only
          cases o z.2 with
          | none => rfl
          | some a =>
            dsimp only
            cases hb a.1 a.2 with
            | none => rfl
            | some b =>
              dsimp only
              cases gN l b.1 b.2 with
              | none => rfl
              | some c =>
                dsimp only
                cases gN j z.1 c.2 with
                | none => rfl
                | some y =>
                  dsimp only
                  cases gN i q.1 y.2 <;> rfl
end
end PD
namespace PD
variable [PD.TabL]
open PySem PySem.Spec PyProof.Rows L2
def eCallF (F : Fs) (ms : M (List Vl)) : M Vl := bd ms fun rs => bd (frzA F.sig rs) (callE F)
def eCallN (F : Fs) (ms : M (List Vl)) : M Vl := bd ms (callE F)
section
variable {K : PySem.W.Frag} {A : Anc}
theorem sx_callF {F : Fs} {t : TA} {ms : M (List Vl)} (h : SAX K A t ms) : SEX K A (tCall (spF K F) [] E0 t) (eCallF F ms) := fun σ τ B H env pe env' r Q S hl e q => by
  obtain ⟨rs, e1, he, e⟩ := bd_inv e
  refine h σ τ B H env pe e1 rs _ S hl he fun B1 H1 vs s1 hl1 S1 hr => ?_
  show spF K F (vs ++ []) H1 Q E0
  rw [List.append_nil]
  obtain ⟨rs2, e2, h2, e⟩ := bd_inv e
  obtain ⟨B2, s2, S2, hl2, p2⟩ := frzA_ok S1 hl1 hr h2
  exact callE_ok S2 hl2 p2 e Q (fun B3 H3 v s3 => q B3 H3 v ((s1.trans s2).trans s3)) _
end
section
variable {g : G0} {c : Ct} {e : Expr} {es : List Expr} {pos p : Pos} {ms : M (List Vl)}
theorem ee_callX {x : Str} {k : Nat} {F : Fs} {m' : M Vl} (hs : ∀ A t, SAX g.K A t ms → SEX g.K A (tCall (spF g.K F) [] E0 t) m') (hF : FnI g x k F) (hk : k ≤ c.k) (hg : GlC c x) (h : EA g c (e :: es) ms) (pl : Pl e) (hpl : ∀ env : PySem.Env, (backTo pos (starEach es env)).any (·.1) = false) (hdb : (x == ("__debug__" : Str)) = false) :
    EE g c (.Call (.Name x p) (e :: es) [] pos) m' := by
  obtain ⟨f, fd, ps, f1, f2, f3, f4⟩ := hF.ex
  obtain ⟨t, h1, h2⟩ := h
  refine ⟨tCall (spF g.K F) [] E0 t, fun X hX => ⟨fun pins s σ H Q I hq => ?_⟩, fun A => hs A t (h2 A)⟩
  refine wpAny_Call_Name_kw (ld_glob I (gl_of hX hg) (by rw [hX.em]; exact f1) ?_ hdb)
  have hkp : PySem.W.keepIn X.K (.ref f) = true := by rw [hX.eK]; exact f2
  refine PySem.W.callWith_K (h₀ := X.base) I.ok.mod.kin hkp (thn ((h1 X hX).run pos pins s σ H _ I hq) fun us s1 ⟨vs, H1, I1, r, q⟩ => ⟨I1.kIn, ?_⟩) (pl es X.env) (hpl X.env)
  refine runG hX f4 hk f3 I1 r ?_
  have q : spF g.K F (vs ++ []) H1 Q E0 := q
  rwa [List.append_nil] at q
theorem ee_callF {x : Str} {k : Nat} {F : Fs} (hF : FnI g x k F) (hk : k ≤ c.k) (hg : GlC c x) (h : EA g c (e :: es) ms) (pl : Pl e) (hpl : ∀ env : PySem.Env, (backTo pos (starEach es env)).any (·.1) = false) (hdb : (x == ("__debug__" : Str)) = false) :
    EE g c (.Call (.Name x p) (e :: es) [] pos) (eCallF F ms) := ee_callX (fun A t h => sx_callF h) hF hk hg h pl hpl hdb
end

section
variable {e : Env}
theorem W_frzA_nil {sig : List Bool} {Q : List Vl → Env → Prop} : @W _ (frzA sig []) e ⟨Q⟩ = Q [] e := by
  cases sig with
  | nil => exact W_eq
  | cons b bs => cases b <;> exact W_eq
theorem W_frzA_t {sig : List Bool} {v : Vl} {rs : List Vl} {Q : List Vl → Env → Prop} : @W _ (frzA (true :: sig) (v :: rs)) e ⟨Q⟩ = @W _ (frzA sig rs) e ⟨fun r e' => Q (v :: r) e'⟩ := by
  show @W _ (bd (frzA sig rs) fun r => rt (v :: r)) e ⟨Q⟩ = _
  simp only [W_eq, bd]
  cases frzA sig rs e <;> rfl
theorem W_frzA_im {sig : List Bool} {d : D} {rs : List Vl} {Q : List Vl → Env → Prop} : @W _ (frzA (false :: sig) (.im d :: rs)) e ⟨Q⟩ = @W _ (frzA sig rs) e ⟨fun r e' => Q (.im d :: r) e'⟩ := by
  show @W _ (bd (frzA sig rs) fun r => rt (.im d :: r)) e ⟨Q⟩ = _
  simp only [W_eq, bd]
  cases frzA sig rs e <;> rfl
theorem W_frzA_bo {sig : List Bool} {i : Nat} {rs : List Vl} {Q : List Vl → Env → Prop} : @W _ (frzA (false :: sig) (.bo i :: rs)) e ⟨Q⟩ = @WO _ (frzO e i) ⟨fun p => @W _ (frzA sig rs) p.2 ⟨fun r e' => Q (.im p.1 :: r) e'⟩⟩ := by
  show @W _ (bd (frz (.bo i)) fun d => bd (frzA sig rs) fun r => rt (.im d :: r)) e ⟨Q⟩ = _
  simp only [W_eq, WO_eq, bd, frzO]
  cases frz (.bo i) e with
  | none => rfl
  | some p =>
    dsimp only
    cases frzA sig rs p.2 <;> rfl
theorem W_callE {F : Fs} {rs : List Vl} {Q : Vl → Env → Prop} : @W _ (callE F rs) e ⟨Q⟩ = @WO _ (cnts e rs) ⟨fun ds => @WC (ioAll e F.sig rs && decide (ioIx F.sig rs).Nodup && disj (ioIx F.sig rs) (brIx e F.sig rs)) ⟨@WO _ (F.sem ds) ⟨fun p =>
    @WC ((brIx e F.sig rs).isEmpty || (p.1.nm && nmOut F.sig p.2)) ⟨@WO _ (some (updE F.sig rs p.2 e)) ⟨fun e' => Q p.1 e'⟩⟩⟩⟩⟩ := by
  unfold callE
  simp only [W_eq, WO_eq, WC_eq]
  cases cnts e rs with
  | none => rfl
  | some ds =>
    dsimp only
    cases (ioAll e F.sig rs && decide (ioIx F.sig rs).Nodup && disj (ioIx F.sig rs) (brIx e F.sig rs)) with
    | false => rfl
    | true =>
      rw [if_pos rfl]
      dsimp only
      try rw [WO_eq]
      cases F.sem ds with
      | none => rfl
      | some p =>
        obtain ⟨r, ds'⟩ := p
        dsimp only
        try rw [WC_eq]
        cases ((brIx e F.sig rs).isEmpty || (r.nm && nmOut F.sig ds')) with
        | false => rfl
        | true =>
          rw [if_pos rfl]
          try rw [WO_eq]
theorem W_eCallN {F : Fs} {ms : M (List Vl)} {Q : Vl → Env → Prop} : @W _ (eCallN F ms) e ⟨Q⟩ = @W _ ms e ⟨fun rs e' => @W _ (callE F rs) e' ⟨Q⟩⟩ := W_bd
theorem W_eCallF {F : Fs} {ms : M (List Vl)} {Q : Vl → Env → Prop} : @W _ (eCallF F ms) e ⟨Q⟩ = @W _ ms e ⟨fun rs e' => @W _ (frzA F.sig rs) e' ⟨fun rs' e2 => @W _ (callE F rs') e2 ⟨Q⟩⟩⟩ := by
  unfold eCallF
  simp only [W_eq, bd]
  cases ms e with
  | none => rfl
  | some p =>
    dsimp only
    cases frzA F.sig p.1 p.2 with
    | none => rfl
    | some q =>
      dsimp only
theorem WO_runF {sig : List Bool} {n : Nat} {body : SM} {ds : List D} {K : Vl × List D → Prop} : @WO _ (runF sig n body ds) ⟨K⟩ = @WC (decide (ds.length = sig.length)) ⟨@WO _ (some (mkE 0 sig ds ++ List.replicate (n - ds.length) .em)) ⟨fun e0 => @W _ body e0 ⟨fun fl e1 => match fl with
    | .nx => @WO _ (outE sig 0 e1 ds) ⟨fun o => K (.im .non, o)⟩
    | .rt r => @WO _ (retV e1 r) ⟨fun r' => @WO _ (outE sig 0 e1 ds) ⟨fun o => K (r', o)⟩⟩
    | .bk => False
    | .ct => False⟩⟩⟩ := by
  unfold runF
  by_cases h : ds.length = sig.length
  · rw [if_pos h]
    simp only [W_eq, WO_eq, WC_eq, h, decide_true]
    cases body (mkE 0 sig ds ++ List.replicate (n - sig.length) Sl.em) with
    | none => rfl
    | some p =>
      obtain ⟨fl, e1⟩ := p
      cases fl with
      | nx =>
        dsimp only
        try rw [WO_eq]
        cases outE sig 0 e1 ds <;> rfl
      | bk => rfl
      | ct => rfl
      | rt r =>
        dsimp only
        try rw [WO_eq]
        cases retV e1 r with
        | none => rfl
        | some r' =>
          dsimp only
          try rw [WO_eq]
          cases outE sig 0 e1 ds <;> rfl
  · rw [if_neg h]
    simp only [WO_eq, WC_eq, h, decide_false]
def rg1 : List D → Option (List D)
  | [.int j] => if in62 j = true then some (rngD 0 j.toNat) else none
  | _ => none
def rg2 : List D → Option (List D)
  | [.int i, .int j] => if (in62 i && in62 j) = true then some (rngD i (j - i).toNat) else none
  | _ => none
theorem W_mR1 {ms : M (List Vl)} {Q : List D → Env → Prop} : @W _ (mR1 ms) e ⟨Q⟩ = @W _ ms e ⟨fun rs e' => @WO _ (cnts e' rs) ⟨fun ds => @WO _ (rg1 ds) ⟨fun l => Q l e'⟩⟩⟩ := by
  unfold mR1
  simp only [W_eq, WO_eq, bd]
  cases ms e with
  | none => rfl
  | some p =>
    dsimp only
    try rw [WO_eq]
    cases cnts p.2 p.1 with
    | none => rfl
    | some ds =>
      dsimp only
      try rw [WO_eq]
      unfold rg1
      split
      · rename_i j h
        split at h
        · rename_i j' hj
          cases hj
          split at h
          · rename_i hh
            cases h
            simp only [hh, if_true]
          · cases h
        · cases h
      · rename_i h
        split at h
        · rename_i j' hj
          cases hj
          split at h
          · cases h
          · rename_i hh
            simp only [hh, if_false]
            rfl
        · rename_i hj
          split
          · rename_i z hz
            split at hz
            · rename_i q
              exact absurd rfl (hj _)
            · cases hz
          · rfl
theorem W_mR2 {ms : M (List Vl)} {Q : List D → Env → Prop} : @W _ (mR2 ms) e ⟨Q⟩ = @W _ ms e ⟨fun rs e' => @WO _ (cnts e' rs) ⟨fun ds => @WO _ (rg2 ds) ⟨fun l => Q l e'⟩⟩⟩ := by
  unfold mR2
  simp only [W_eq, WO_eq, bd]
  cases ms e with
  | none => rfl
  | some p =>
    dsimp only
    try rw [WO_eq]
    cases cnts p.2 p.1 with
    | none => rfl
    | some ds =>
      dsimp only
      try rw [WO_eq]
      unfold rg2
      split
      · rename_i j h
        split at h
        · rename_i j' hj
          cases hj
          split at h
          · rename_i hh
            cases h
            simp only [hh, if_true]
          · cases h
        · cases h
      · rename_i h
        split at h
        · rename_i j' hj
          cases hj
          split at h
          · cases h
          · rename_i hh
            simp only [hh, if_false]
            rfl
        · rename_i hj
          split
          · rename_i z hz
            split at hz
            · rename_i q
              exact absurd rfl (hj _ _)
            · cases hz
          · rfl
def seqL : D → Option (List D)
  | .lst ds => some ds
  | _ => none
def seqT : D → Option (List D)
  | .tup ds => some ds
  | .tp ds => some ds
  | _ => none
theorem W_mLst {m : M Vl} {Q : List D → Env → Prop} : @W _ (mLst m) e ⟨Q⟩ = @W _ m e ⟨fun r e1 => @W _ (frz r.hold) e1 ⟨fun d e2 => @WO _ (seqL d) ⟨fun l => Q l e2⟩⟩⟩ := by
  unfold mLst
  simp only [W_eq, WO_eq, bd]
  cases m e with
  | none => rfl
  | some p =>
    dsimp only
    try rw [W_eq]
    cases frz p.1.hold p.2 with
    | none => rfl
    | some q =>
      obtain ⟨d, e2⟩ := q
      dsimp only
      try rw [WO_eq]
      cases d <;> rfl
theorem W_mTup {m : M Vl} {Q : List D → Env → Prop} : @W _ (mTup m) e ⟨Q⟩ = @W _ m e ⟨fun r e1 => @W _ (frz r.hold) e1 ⟨fun d e2 => @WO _ (seqT d) ⟨fun l => Q l e2⟩⟩⟩ := by
  unfold mTup
  simp only [W_eq, WO_eq, bd]
  cases m e with
  | none => rfl
  | some p =>
    dsimp only
    try rw [W_eq]
    cases frz p.1.hold p.2 with
    | none => rfl
    | some q =>
      obtain ⟨d, e2⟩ := q
      dsimp only
      try rw [WO_eq]
      cases d <;> rfl
theorem W_mEnum {m : M Vl} {Q : List D → Env → Prop} : @W _ (mEnum m) e ⟨Q⟩ = @W _ m e ⟨fun r e1 => @W _ (frz r.hold) e1 ⟨fun d e2 => @WO _ (seqL d) ⟨fun l => Q (enumD 0 l) e2⟩⟩⟩ := by
  unfold mEnum
  simp only [W_eq, WO_eq, bd]
  cases m e with
  | none => rfl
  | some p =>
    dsimp only
    try rw [W_eq]
    cases frz p.1.hold p.2 with
    | none => rfl
    | some q =>
      obtain ⟨d, e2⟩ := q
      dsimp only
      try rw [WO_eq]
      cases d <;> rfl
theorem W_mStr {m : M Vl} {Q : List D → Env → Prop} : @W _ (mStr m) e ⟨Q⟩ = @W _ m e ⟨fun r e1 => match r with | .im (.str x) => Q (chD x) e1 | _ => False⟩ := by
  unfold mStr
  simp only [W_eq, bd]
  cases m e with
  | none => rfl
  | some p =>
    obtain ⟨r, e1⟩ := p
    cases r with
    | im d => cases d <;> rfl
    | fr d => rfl
    | bo i => rfl
def zipO : List D → Option (List D)
  | [.lst a, .lst b] => some (zipD a b)
  | [.tup a, .tup b] => some (zipD a b)
  | [.tp a, .tp b] => some (zipD a b)
  | [.tp a, .tup b] => some (zipD a b)
  | [.tup a, .tp b] => some (zipD a b)
  | _ => none
theorem W_mZip {ms : M (List Vl)} {Q : List D → Env → Prop} : @W _ (mZip ms) e ⟨Q⟩ = @W _ ms e ⟨fun rs e1 => @W _ (frzs rs) e1 ⟨fun ds e2 => @WO _ (zipO ds) ⟨fun l => Q l e2⟩⟩⟩ := by
  unfold mZip
  simp only [W_eq, WO_eq, bd]
  cases ms e with
  | none => rfl
  | some p =>
    dsimp only
    try rw [W_eq]
    cases frzs p.1 p.2 with
    | none => rfl
    | some q =>
      obtain ⟨ds, e2⟩ := q
      dsimp only
      try rw [WO_eq]
      match ds with
      | [] => rfl
      | [d] => cases d <;> rfl
      | [d, d'] => cases d <;> cases d' <;> rfl
      | d :: d' :: _ :: _ => cases d <;> cases d' <;> rfl
theorem W_sFor {mi : M (List D)} {g : Vl → M Unit} {b : SM} {Q : Fl → Env → Prop} : @W _ (sFor mi g b) e ⟨Q⟩ = @W _ mi e ⟨fun ds e1 => @W _ (forL g b ds) e1 ⟨Q⟩⟩ := by
  unfold sFor
  simp only [W_eq]
  cases mi e with
  | none => rfl
  | some p => rfl
theorem W_sWhl {n : Nat} {c : M Bool} {b : SM} {Q : Fl → Env → Prop} : @W _ (sWhl n c b) e ⟨Q⟩ = @W _ (whlL c b n) e ⟨Q⟩ := rfl
def goesOn (P : Env → Prop) (Q : Fl → Env → Prop) : Fl → Env → Prop
  | .nx, e => P e
  | .ct, e => P e
  | .bk, e => Q .nx e
  | .rt v, e => Q (.rt v) e
theorem goes_nx {P : Env → Prop} {Q : Fl → Env → Prop} {e : Env} : goesOn P Q .nx e = P e := rfl
theorem goes_ct {P : Env → Prop} {Q : Fl → Env → Prop} {e : Env} : goesOn P Q .ct e = P e := rfl
theorem goes_bk {P : Env → Prop} {Q : Fl → Env → Prop} {e : Env} : goesOn P Q .bk e = Q .nx e := rfl
theorem goes_rt {P : Env → Prop} {Q : Fl → Env → Prop} {v : Vl} {e : Env} : goesOn P Q (.rt v) e = Q (.rt v) e := rfl
theorem W_for_at {g : Vl → M Unit} {b : SM} {Q : Fl → Env → Prop} {P : Nat → Env → Prop} : ∀ {ds : List D} {k : Nat} {e : Env}, P k e →
    (∀ i d e, ds[i]? = some d → P (k + i) e → @W _ (g (.im d)) e ⟨fun _ e1 => @W _ b e1 ⟨goesOn (P (k + i + 1)) Q⟩⟩) →
    (∀ e, P (k + ds.length) e → Q .nx e) → @W _ (forL g b ds) e ⟨Q⟩
  | [], k, e, p, _, q => ⟨_, _, rfl, q e p⟩
  | d :: ds, k, e, p, h, q => by
    obtain ⟨_, e1, h1, fl, e2, h2, h3⟩ := h 0 d e rfl p
    have next : P (k + 1) e2 → @W _ (forL g b ds) e2 ⟨Q⟩ := fun p' => W_for_at (k := k + 1) p' (fun i d e hd hp => by
      have := h (i + 1) d e hd (by rw [show k + (i + 1) = k + 1 + i by omega]; exact hp)
      rwa [show k + (i + 1) + 1 = k + 1 + i + 1 by omega] at this) fun e hp => q e (by rw [List.length_cons, show k + (ds.length + 1) = k + 1 + ds.length by omega]; exact hp)
    have e0 : forL g b (d :: ds) e = match fl with
      | .nx => forL g b ds e2
      | .ct => forL g b ds e2
      | .bk => some (.nx, e2)
      | .rt v => some (.rt v, e2) := by
      rw [forL]
      simp only [h1, h2]
      cases fl <;> rfl
    cases fl with
    | nx =>
      obtain ⟨fl, e3, h4, h5⟩ := next h3
      exact ⟨fl, e3, e0.trans h4, h5⟩
    | ct =>
      obtain ⟨fl, e3, h4, h5⟩ := next h3
      exact ⟨fl, e3, e0.trans h4, h5⟩
    | bk => exact ⟨_, _, e0, h3⟩
    | rt v => exact ⟨_, _, e0, h3⟩
theorem W_for (P : Nat → Env → Prop) {g : Vl → M Unit} {b : SM} {Q : Fl → Env → Prop} {ds : List D} (h0 : P 0 e)
    (hs : ∀ i d e, ds[i]? = some d → P i e → @W _ (g (.im d)) e ⟨fun _ e1 => @W _ b e1 ⟨goesOn (P (i + 1)) Q⟩⟩)
    (hq : ∀ e, P ds.length e → Q .nx e) : @W _ (forL g b ds) e ⟨Q⟩ :=
  W_for_at (P := P) (k := 0) h0 (fun i d e hd hp => by
    rw [Nat.zero_add] at hp ⊢
    exact hs i d e hd hp) fun e hp => hq e (by rwa [Nat.zero_add] at hp)
theorem W_eComp {vs : List Nat} {mi : M (List D)} {g : Vl → M Unit} {tt : M Bool} {te : M Vl} {Q : Vl → Env → Prop} : @W _ (eComp vs mi g tt te) e ⟨Q⟩ =
    @W _ mi e ⟨fun ds e1 => @WC (vs.all fun v => calmS e1[v]?) ⟨@WO _ (some (wipeE e1 vs)) ⟨fun e2 => @W _ (compL vs g tt te ds) e2 ⟨fun ys e3 => @WC (small ys.length) ⟨@WO _ (some (unwipe e1 e3 vs)) ⟨fun e4 => Q (.fr (.lst ys)) e4⟩⟩⟩⟩⟩⟩ := by
  unfold eComp
  simp only [W_eq]
  cases mi e with
  | none => rfl
  | some p =>
    dsimp only
    try rw [WC_eq]
    cases (vs.all fun v => calmS p.2[v]?) with
    | false => rfl
    | true =>
      dsimp only
      rw [WO_some, W_eq]
      simp only [if_true]
      cases compL vs g tt te p.1 (wipeE p.2 vs) with
      | none => rfl
      | some q =>
        dsimp only
        try rw [WC_eq]
        cases small q.1.length with
        | false => rfl
        | true =>
          dsimp only
          rw [WO_some]
          rfl
theorem W_comp_at {vs : List Nat} {g : Vl → M Unit} {tt : M Bool} {te : M Vl} {P : Nat → List D → Env → Prop} : ∀ {ds : List D} {k : Nat} {ys : List D} {e : Env} {Q : List D → Env → Prop}, P k ys e →
    (∀ i d ys e, ds[i]? = some d → P (k + i) ys e → @W _ (g (.im d)) e ⟨fun _ e1 => @W _ tt e1 ⟨fun b e2 => @WB b ⟨@W _ te e2 ⟨fun r e3 => @W _ (frz r.hold) e3 ⟨fun y e4 => @WO _ (some (wipeE e4 vs)) ⟨fun e5 => P (k + i + 1) (ys ++ [y]) e5⟩⟩⟩, @WO _ (some (wipeE e2 vs)) ⟨fun e5 => P (k + i + 1) ys e5⟩⟩⟩⟩) →
    (∀ zs e, P (k + ds.length) (ys ++ zs) e → Q zs e) → @W _ (compL vs g tt te ds) e ⟨Q⟩
  | [], k, ys, e, Q, p, _, q => ⟨[], e, rfl, q [] e (by rw [List.append_nil]; exact p)⟩
  | d :: ds, k, ys, e, Q, p, h, q => by
    obtain ⟨_, e1, h1, b, e2, h2, h3⟩ := h 0 d ys e rfl p
    have nx : ∀ {ys' : List D} {e' : Env} {Q' : List D → Env → Prop}, P (k + 1) ys' e' → (∀ zs e, P (k + 1 + ds.length) (ys' ++ zs) e → Q' zs e) → @W _ (compL vs g tt te ds) e' ⟨Q'⟩ := fun p' q' => W_comp_at (k := k + 1) p' (fun i d ys e hd hp => by
      have := h (i + 1) d ys e hd (by rw [show k + (i + 1) = k + 1 + i by omega]; exact hp)
      rwa [show k + (i + 1) + 1 = k + 1 + i + 1 by omega] at this) q'
    have hk : k + 1 + ds.length = k + (d :: ds).length := by rw [List.length_cons]; omega
    cases b with
    | false =>
      have h3 : @WB false ⟨_, @WO _ (some (wipeE e2 vs)) ⟨fun e5 => P (k + 0 + 1) ys e5⟩⟩ := h3
      rw [WB_false, WO_some] at h3
      obtain ⟨zs, e3, h4, h5⟩ := nx (Q' := Q) h3 fun zs e hp => q zs e (by rw [← hk]; exact hp)
      refine ⟨zs, e3, ?_, h5⟩
      rw [compL]
      simp only [h1, h2, h4]
    | true =>
      have h3 : @WB true ⟨@W _ te e2 ⟨fun r e3 => @W _ (frz r.hold) e3 ⟨fun y e4 => @WO _ (some (wipeE e4 vs)) ⟨fun e5 => P (k + 0 + 1) (ys ++ [y]) e5⟩⟩⟩, _⟩ := h3
      rw [WB_true] at h3
      obtain ⟨r, e3, h4, y, e4, h5, h6⟩ := h3
      have h6 : @WO _ (some (wipeE e4 vs)) ⟨fun e5 => P (k + 0 + 1) (ys ++ [y]) e5⟩ := h6
      rw [WO_some] at h6
      obtain ⟨zs, e5, h7, h8⟩ := nx (Q' := fun zs e => Q (y :: zs) e) h6 fun zs e hp => q (y :: zs) e (by rw [← hk]; rwa [List.append_assoc] at hp)
      refine ⟨y :: zs, e5, ?_, h8⟩
      rw [compL]
      simp only [h1, h2, h4, h5, h7]
/-- by an invariant of what was told so far -/
theorem W_comp (P : Nat → List D → Env → Prop) {vs : List Nat} {g : Vl → M Unit} {tt : M Bool} {te : M Vl} {Q : List D → Env → Prop} {ds : List D} (h0 : P 0 [] e)
    (hs : ∀ i d ys e, ds[i]? = some d → P i ys e → @W _ (g (.im d)) e ⟨fun _ e1 => @W _ tt e1 ⟨fun b e2 => @WB b ⟨@W _ te e2 ⟨fun r e3 => @W _ (frz r.hold) e3 ⟨fun y e4 => @WO _ (some (wipeE e4 vs)) ⟨fun e5 => P (i + 1) (ys ++ [y]) e5⟩⟩⟩, @WO _ (some (wipeE e2 vs)) ⟨fun e5 => P (i + 1) ys e5⟩⟩⟩⟩)
    (hq : ∀ ys e, P ds.length ys e → Q ys e) : @W _ (compL vs g tt te ds) e ⟨Q⟩ :=
  W_comp_at (P := P) (k := 0) h0 (fun i d ys e hd hp => by
    rw [Nat.zero_add] at hp ⊢
    exact hs i d ys e hd hp) fun ys e hp => hq ys e (by rwa [Nat.zero_add] at hp)
/-- one that leaves the slots as they are: what p takes, by f -/
theorem W_comp_flt (p : D → Bool) (f : D → D) {vs : List Nat} {g : Vl → M Unit} {tt : M Bool} {te : M Vl} {Q : List D → Env → Prop} {ds : List D}
    (hs : ∀ d, d ∈ ds → @W _ (g (.im d)) e ⟨fun _ e1 => @W _ tt e1 ⟨fun b e2 => @WB b ⟨@W _ te e2 ⟨fun r e3 => @W _ (frz r.hold) e3 ⟨fun y e4 => p d = true ∧ y = f d ∧ wipeE e4 vs = e⟩⟩, p d = false ∧ wipeE e2 vs = e⟩⟩⟩)
    (hq : Q ((ds.filter p).map f) e) : @W _ (compL vs g tt te ds) e ⟨Q⟩ := by
  refine ⟨_, _, ?_, hq⟩
  clear hq
  induction ds with
  | nil => rfl
  | cons d ds ih =>
    have ih := ih fun d hd => hs d (List.mem_cons_of_mem _ hd)
    obtain ⟨_, e1, h1, b, e2, h2, h3⟩ := hs d (List.mem_cons_self ..)
    rw [compL]
    cases b with
    | false =>
      have h3 : @WB false ⟨_, p d = false ∧ wipeE e2 vs = e⟩ := h3
      rw [WB_false] at h3
      simp only [h1, h2, h3.2, ih, List.filter_cons, h3.1, Bool.false_eq_true, if_false]
    | true =>
      have h3 : @WB true ⟨@W _ te e2 ⟨fun r e3 => @W _ (frz r.hold) e3 ⟨fun y e4 => p d = true ∧ y = f d ∧ wipeE e4 vs = e⟩⟩, _⟩ := h3
      rw [WB_true] at h3
      obtain ⟨r, e3, h4, y, e4, h5, h6, h7, h8⟩ := h3
      have h7 : y = f d := h7
      have h6 : p d = true := h6
      have h8 : wipeE e4 vs = e := h8
      simp only [h1, h2, h4, h5, h8, ih, List.filter_cons, h6, if_true, List.map_cons, h7]
theorem W_comp_map (f : D → D) {vs : List Nat} {g : Vl → M Unit} {tt : M Bool} {te : M Vl} {Q : List D → Env → Prop} {ds : List D}
    (hs : ∀ d, d ∈ ds → @W _ (g (.im d)) e ⟨fun _ e1 => @W _ tt e1 ⟨fun b e2 => @WB b ⟨@W _ te e2 ⟨fun r e3 => @W _ (frz r.hold) e3 ⟨fun y e4 => y = f d ∧ wipeE e4 vs = e⟩⟩, False⟩⟩⟩)
    (hq : Q (ds.map f) e) : @W _ (compL vs g tt te ds) e ⟨Q⟩ := by
  refine W_comp_flt (fun _ => true) f (fun d hd => ?_) (by rw [show ds.filter (fun _ => true) = ds by induction ds <;> simp_all]; exact hq)
  refine W_mono (hs d hd) fun _ e1 h => W_mono h fun b e2 h => ?_
  cases b with
  | false => exact (WB_false.mp h).elim
  | true =>
    refine WB_true.mpr ?_
    have h := WB_true.mp h
    exact W_mono h fun r e3 h => W_mono h fun y e4 h => ⟨rfl, h⟩
end
end PD
namespace PD
variable [PD.TabL]
open PySem PySem.Spec PyProof.Rows L2
section
variable {α : Type} {a b c d e f g h i : α} {l : List α}
theorem at0 : L2.atI (a :: l) 0 = some a := at_nat (j := 0) rfl
theorem at1 : L2.atI (a :: b :: l) 1 = some b := at_nat (j := 1) rfl
theorem at2 : L2.atI (a :: b :: c :: l) 2 = some c := at_nat (j := 2) rfl
theorem at3 : L2.atI (a :: b :: c :: d :: l) 3 = some d := at_nat (j := 3) rfl
theorem at4 : L2.atI (a :: b :: c :: d :: e :: l) 4 = some e := at_nat (j := 4) rfl
theorem at5 : L2.atI (a :: b :: c :: d :: e :: f :: l) 5 = some f := at_nat (j := 5) rfl
theorem at6 : L2.atI (a :: b :: c :: d :: e :: f :: g :: l) 6 = some g := at_nat (j := 6) rfl
theorem at7 : L2.atI (a :: b :: c :: d :: e :: f :: g :: h :: l) 7 = some h := at_nat (j := 7) rfl
theorem ixN_nat {n j : Nat} (h : j < n) : L2.ixN n (j : Int) = some j := by
  unfold L2.ixN
  rw [if_pos (by omega), if_pos (by omega)]
  rfl
theorem setDk_at {ds : List D} {j : Nat} {x : D} (h : j < ds.length) : setDk (.lst ds) (.int (j : Int)) x = some (.lst (ds.set j x)) := by
  show (match L2.ixN ds.length (j : Int) with | some j => some (D.lst (ds.set j x)) | none => none) = _
  rw [ixN_nat h]
theorem sd0 {a x : D} {l : List D} : setDk (.lst (a :: l)) (.int 0) x = some (.lst (x :: l)) := setDk_at (j := 0) (by simp)
theorem sd1 {a b x : D} {l : List D} : setDk (.lst (a :: b :: l)) (.int 1) x = some (.lst (a :: x :: l)) := setDk_at (j := 1) (by simp)
theorem sd2 {a b c x : D} {l : List D} : setDk (.lst (a :: b :: c :: l)) (.int 2) x = some (.lst (a :: b :: x :: l)) := setDk_at (j := 2) (by simp)
theorem sd3 {a b c d x : D} {l : List D} : setDk (.lst (a :: b :: c :: d :: l)) (.int 3) x = some (.lst (a :: b :: c :: x :: l)) := setDk_at (j := 3) (by simp)
theorem WO_map {β : Type} {o : Option α} {f : α → β} {K : β → Prop} : @WO _ (o.map f) ⟨K⟩ = @WO _ o ⟨fun a => K (f a)⟩ := by
  simp only [WO_eq]
  cases o <;> rfl
/-- an index within a list -/
theorem WO_at {l : List α} {i : Int} {K : α → Prop} (h0 : 0 ≤ i) (h1 : i < l.length) (q : ∀ (j : Nat) (a : α), i = j → l[j]? = some a → K a) : @WO _ (L2.atI l i) ⟨K⟩ := by
  obtain ⟨j, rfl⟩ := Int.eq_ofNat_of_zero_le h0
  have hj : j < l.length := by omega
  exact WO_of (at_nat (List.getElem?_eq_getElem hj)) (q j _ rfl (List.getElem?_eq_getElem hj))
end
theorem s64_small {i : Int} (h0 : -1000000000000 ≤ i) (h1 : i ≤ 1000000000000) : s64 i = true := by
  simp only [s64, Bool.and_eq_true, decide_eq_true_eq]
  omega
theorem in62_small {i : Int} (h0 : -1000000000000 ≤ i) (h1 : i ≤ 1000000000000) : in62 i = true := by
  simp only [in62, Bool.and_eq_true, decide_eq_true_eq]
  omega
end PD
namespace PD
variable [PD.TabL]
open PySem PySem.Spec PyProof.Rows L2
inductive Ty where
  | int (lo hi : Int)
  | bl
  /-- a text of so many signs below 128 at most -/
  | str (n : Nat)
  | tup (ts : List Ty)
  /-- a tuple, a list of so many of one shape at most -/
  | tv (t : Ty) (n : Nat)
  | lst (t : Ty) (n : Nat)
  | un (t u : Ty)
  /-- a bare tuple -/
  | bt (t : Ty) (n : Nat)
  | non
mutual
def Has : Ty → D → Prop
  | .int lo hi, d => ∃ i, d = .int i ∧ lo ≤ i ∧ i ≤ hi
  | .bl, d => ∃ b, d = .bl b
  | .str n, d => ∃ x, d = .str x ∧ As n x
  | .tup ts, d => ∃ ds, d = .tup ds ∧ HasL ts ds
  | .tv t n, d => ∃ ds, d = .tup ds ∧ ds.length ≤ n ∧ ∀ e ∈ ds, Has t e
  | .lst t n, d => ∃ ds, d = .lst ds ∧ ds.length ≤ n ∧ ∀ e ∈ ds, Has t e
  | .un t u, d => Has t d ∨ Has u d
  | .bt t n, d => ∃ ds, d = .tp ds ∧ ds.length ≤ n ∧ ∀ e ∈ ds, Has t e
  | .non, d => d = .non
def HasL : List Ty → List D → Prop
  | [], ds => ds = []
  | t :: ts, ds => ∃ d r, ds = d :: r ∧ Has t d ∧ HasL ts r
end
mutual
def Ty.dep : Ty → Nat
  | .int _ _ => 0
  | .bl => 0
  | .str _ => 0
  | .tup ts => deps ts + 1
  | .tv t _ => t.dep + 1
  | .lst t _ => t.dep + 1
  | .un t u => max t.dep u.dep
  | .bt t _ => t.dep + 1
  | .non => 0
def deps : List Ty → Nat
  | [] => 0
  | t :: ts => max t.dep (deps ts)
end
mutual
theorem Has.py : ∀ {t : Ty} {d : D}, Has t d → d.isPy = true ∧ d.py.canLay0 = true ∧ d.py.depth ≤ t.dep
  | .int lo hi, d, h => by
    obtain ⟨i, rfl, _⟩ := h
    simp [D.isPy, D.py, PyData.canLay0, PyData.depth]
  | .bl, d, h => by
    obtain ⟨i, rfl⟩ := h
    simp [D.isPy, D.py, PyData.canLay0, PyData.depth]
  | .str n, d, h => by
    obtain ⟨x, rfl, hx⟩ := h
    simp [D.isPy, D.py, PyData.canLay0, PyData.depth, hx.ok]
  | .tup ts, d, h => by
    obtain ⟨ds, rfl, hd⟩ := h
    obtain ⟨h1, h2, h3⟩ := HasL.py hd
    refine ⟨by simpa [D.isPy] using h1, by simpa [D.py, PyData.canLay0] using h2, ?_⟩
    simp only [D.py, PyData.depth, Ty.dep]
    omega
  | .tv t n, d, h => by
    obtain ⟨ds, rfl, hlen, hd⟩ := h
    clear hlen
    have : arePy ds = true ∧ PyData.canLayAll0 (pys ds) = true ∧ PyData.depthAll (pys ds) ≤ t.dep := by
      induction ds with
      | nil => simp [arePy, pys, PyData.canLayAll0, PyData.depthAll]
      | cons x r ih =>
        obtain ⟨g1, g2, g3⟩ := ih fun e he => hd e (List.mem_cons_of_mem _ he)
        obtain ⟨f1, f2, f3⟩ := Has.py (hd x (List.mem_cons_self ..))
        refine ⟨by simp [arePy, f1, g1], by simp [pys, PyData.canLayAll0, f2, g2], ?_⟩
        simp only [pys, PyData.depthAll]
        omega
    refine ⟨by simpa [D.isPy] using this.1, by simpa [D.py, PyData.canLay0] using this.2.1, ?_⟩
    simp only [D.py, PyData.depth, Ty.dep]
    omega
  | .bt t n, d, h => by
    obtain ⟨ds, rfl, hlen, hd⟩ := h
    clear hlen
    have : arePy ds = true ∧ PyData.canLayAll0 (pys ds) = true ∧ PyData.depthAll (pys ds) ≤ t.dep := by
      induction ds with
      | nil => simp [arePy, pys, PyData.canLayAll0, PyData.depthAll]
      | cons x r ih =>
        obtain ⟨g1, g2, g3⟩ := ih fun e he => hd e (List.mem_cons_of_mem _ he)
        obtain ⟨f1, f2, f3⟩ := Has.py (hd x (List.mem_cons_self ..))
        refine ⟨by simp [arePy, f1, g1], by simp [pys, PyData.canLayAll0, f2, g2], ?_⟩
        simp only [pys, PyData.depthAll]
        omega
    refine ⟨by simpa [D.isPy] using this.1, by simpa [D.py, PyData.canLay0] using this.2.1, ?_⟩
    simp only [D.py, PyData.depth, Ty.dep]
    omega
  | .non, d, h => by
    have h : d = .non := h
    subst h
    simp [D.isPy, D.py, PyData.canLay0, PyData.depth]
  | .lst t n, d, h => by
    obtain ⟨ds, rfl, hlen, hd⟩ := h
    clear hlen
    have : arePy ds = true ∧ PyData.canLayAll0 (pys ds) = true ∧ PyData.depthAll (pys ds) ≤ t.dep := by
      induction ds with
      | nil => simp [arePy, pys, PyData.canLayAll0, PyData.depthAll]
      | cons x r ih =>
        obtain ⟨g1, g2, g3⟩ := ih fun e he => hd e (List.mem_cons_of_mem _ he)
        obtain ⟨f1, f2, f3⟩ := Has.py (hd x (List.mem_cons_self ..))
        refine ⟨by simp [arePy, f1, g1], by simp [pys, PyData.canLayAll0, f2, g2], ?_⟩
        simp only [pys, PyData.depthAll]
        omega
    refine ⟨by simpa [D.isPy] using this.1, by simpa [D.py, PyData.canLay0] using this.2.1, ?_⟩
    simp only [D.py, PyData.depth, Ty.dep]
    omega
  | .un t u, d, h => by
    rcases (h : Has t d ∨ Has u d) with h | h
    · obtain ⟨h1, h2, h3⟩ := Has.py h
      exact ⟨h1, h2, by simp only [Ty.dep]; omega⟩
    · obtain ⟨h1, h2, h3⟩ := Has.py h
      exact ⟨h1, h2, by simp only [Ty.dep]; omega⟩
theorem HasL.py : ∀ {ts : List Ty} {ds : List D}, HasL ts ds → arePy ds = true ∧ PyData.canLayAll0 (pys ds) = true ∧ PyData.depthAll (pys ds) ≤ deps ts
  | [], ds, h => by
    have h : ds = [] := h
    subst h
    simp [arePy, pys, PyData.canLayAll0, PyData.depthAll]
  | t :: ts, ds, h => by
    obtain ⟨d, r, rfl, h1, h2⟩ := h
    obtain ⟨f1, f2, f3⟩ := Has.py h1
    obtain ⟨g1, g2, g3⟩ := HasL.py h2
    refine ⟨by simp [arePy, f1, g1], by simp [pys, PyData.canLayAll0, f2, g2], ?_⟩
    simp only [pys, PyData.depthAll, deps]
    omega
end
/-- a list's data of one shape, as a list -/
theorem hasAll_py {t : Ty} {ds : List D} (h : ∀ e ∈ ds, Has t e) : arePy ds = true ∧ PyData.canLayAll0 (pys ds) = true ∧ PyData.depthAll (pys ds) ≤ t.dep := by
  have h1 := Has.py (t := .lst t ds.length) (d := .lst ds) ⟨ds, rfl, Nat.le_refl _, h⟩
  refine ⟨by simpa [D.isPy] using h1.1, by simpa [D.py, PyData.canLay0] using h1.2.1, ?_⟩
  have := h1.2.2
  simp only [D.py, PyData.depth, Ty.dep] at this
  omega
def al : Nat → Ty → Ty → Bool
  | n + 1, .un t u, v => al n t v && al n u v
  | n + 1, .int _ _, v => match v with
    | .int _ _ => true
    | .un u v => al n (.int 0 0) u && al n (.int 0 0) v
    | _ => false
  | n + 1, .bl, v => match v with
    | .bl => true
    | .un u v => al n .bl u && al n .bl v
    | _ => false
  | n + 1, .str m, v => match v with
    | .str _ => true
    | .un u v => al n (.str m) u && al n (.str m) v
    | _ => false
  | n + 1, .tup ts, v => match v with
    | .tup us => (ts.zip us).all fun p => al n p.1 p.2
    | .tv u _ => ts.all fun t => al n t u
    | .un u v => al n (.tup ts) u && al n (.tup ts) v
    | _ => false
  | n + 1, .tv t m, v => match v with
    | .tup us => us.all fun u => al n t u
    | .tv u _ => al n t u
    | .un u v => al n (.tv t m) u && al n (.tv t m) v
    | _ => false
  | n + 1, .lst t m, v => match v with
    | .lst u _ => al n t u
    | .un u v => al n (.lst t m) u && al n (.lst t m) v
    | _ => false
  | _ + 1, .bt _ _, _ => false
  | _ + 1, .non, _ => false
  | 0, _, _ => false
def Ty.al (t u : Ty) : Bool := PD.al 20 t u
theorem alikeAll_of : ∀ {ds es : List D}, (∀ (i : Nat) (d e : D), ds[i]? = some d → es[i]? = some e → PySem.W.alike d.py e.py = true) → PySem.W.alikeAll (pys ds) (pys es) = true
  | [], es, _ => by simp [pys, PySem.W.alikeAll]
  | d :: ds, [], _ => by simp [pys, PySem.W.alikeAll]
  | d :: ds, e :: es, h => by
    simp only [pys, PySem.W.alikeAll, Bool.and_eq_true]
    exact ⟨h 0 d e rfl rfl, alikeAll_of fun i a b ha hb => h (i + 1) a b ha hb⟩
theorem HasL.at : ∀ {ts : List Ty} {ds : List D} {i : Nat} {d : D}, HasL ts ds → ds[i]? = some d → ∃ t, ts[i]? = some t ∧ Has t d
  | [], ds, i, d, h, e => by
    have h : ds = [] := h
    subst h
    simp at e
  | t :: ts, ds, i, d, h, e => by
    obtain ⟨x, r, rfl, h1, h2⟩ := h
    cases i with
    | zero =>
      have : x = d := by simpa using e
      subst this
      exact ⟨t, rfl, h1⟩
    | succ i => exact HasL.at (i := i) h2 (by simpa using e)
theorem zip_at {ts us : List Ty} {p : Ty × Ty → Bool} (h : (ts.zip us).all p = true) {i : Nat} {t u : Ty} (h1 : ts[i]? = some t) (h2 : us[i]? = some u) : p (t, u) = true := by
  refine List.all_eq_true.mp h (t, u) ?_
  refine List.mem_of_getElem? (i := i) ?_
  rw [List.getElem?_zip_eq_some]
  exact ⟨h1, h2⟩
theorem Has.int_any {lo hi : Int} {d : D} (h : Has (.int lo hi) d) : ∃ i, d = .int i := by
  obtain ⟨i, e, _⟩ := h
  exact ⟨i, e⟩
theorem al_int : ∀ (n : Nat) {u : Ty} {i : Int} {e : D}, al n (.int 0 0) u = true → Has u e → PySem.W.alike (D.int i).py e.py = true
  | 0, u, i, e, h, _ => by cases h
  | n + 1, u, i, e, h, h2 => by
    cases u with
    | int lo hi =>
      obtain ⟨j, rfl, _⟩ := h2
      simp only [D.py, PySem.W.alike]
    | un u v =>
      have h : (al n (.int 0 0) u && al n (.int 0 0) v) = true := h
      rw [Bool.and_eq_true] at h
      rcases (h2 : Has u e ∨ Has v e) with h2 | h2
      · exact al_int n h.1 h2
      · exact al_int n h.2 h2
    | _ => cases h
theorem al_ok : ∀ (n : Nat) {t u : Ty} {d e : D}, al n t u = true → Has t d → Has u e → PySem.W.alike d.py e.py = true
  | 0, t, u, _, _, h, _, _ => by cases t <;> cases h
  | n + 1, t, u, d, e, h, h1, h2 => by
    cases t with
    | un t t' =>
      have h : (al n t u && al n t' u) = true := h
      rw [Bool.and_eq_true] at h
      rcases (h1 : Has t d ∨ Has t' d) with h1 | h1
      · exact al_ok n h.1 h1 h2
      · exact al_ok n h.2 h1 h2
    | int lo hi =>
      obtain ⟨i, rfl⟩ := h1.int_any
      exact al_int (n + 1) (u := u) (by cases u <;> exact h) h2
    | bl =>
      cases u with
      | bl =>
        obtain ⟨i, rfl⟩ := h1
        obtain ⟨j, rfl⟩ := h2
        simp only [D.py, PySem.W.alike]
      | un u v =>
        have h : (al n .bl u && al n .bl v) = true := h
        rw [Bool.and_eq_true] at h
        rcases (h2 : Has u e ∨ Has v e) with h2 | h2
        · exact al_ok n h.1 h1 h2
        · exact al_ok n h.2 h1 h2
      | _ => cases h
    | str m =>
      cases u with
      | str m' =>
        obtain ⟨i, rfl, _⟩ := h1
        obtain ⟨j, rfl, _⟩ := h2
        simp only [D.py, PySem.W.alike]
      | un u v =>
        have h : (al n (.str m) u && al n (.str m) v) = true := h
        rw [Bool.and_eq_true] at h
        rcases (h2 : Has u e ∨ Has v e) with h2 | h2
        · exact al_ok n h.1 h1 h2
        · exact al_ok n h.2 h1 h2
      | _ => cases h
    | tup ts =>
      cases u with
      | tup us =>
        obtain ⟨ds, rfl, g1⟩ := h1
        obtain ⟨es, rfl, g2⟩ := h2
        simp only [D.py, PySem.W.alike]
        refine alikeAll_of fun i a b ha hb => ?_
        obtain ⟨t', k1, k2⟩ := g1.at ha
        obtain ⟨u', k3, k4⟩ := g2.at hb
        exact al_ok n (zip_at (p := fun p => al n p.1 p.2) h k1 k3) k2 k4
      | tv u m =>
        obtain ⟨ds, rfl, g1⟩ := h1
        obtain ⟨es, rfl, _, g2⟩ := h2
        simp only [D.py, PySem.W.alike]
        refine alikeAll_of fun i a b ha hb => ?_
        obtain ⟨t', k1, k2⟩ := g1.at ha
        have h : (ts.all fun t => al n t u) = true := h
        exact al_ok n (List.all_eq_true.mp h t' (List.mem_of_getElem? k1)) k2 (g2 b (List.mem_of_getElem? hb))
      | un u v =>
        have h : (al n (.tup ts) u && al n (.tup ts) v) = true := h
        rw [Bool.and_eq_true] at h
        rcases (h2 : Has u e ∨ Has v e) with h2 | h2
        · exact al_ok n h.1 h1 h2
        · exact al_ok n h.2 h1 h2
      | _ => cases h
    | tv t m =>
      cases u with
      | tup us =>
        obtain ⟨ds, rfl, _, g1⟩ := h1
        obtain ⟨es, rfl, g2⟩ := h2
        simp only [D.py, PySem.W.alike]
        refine alikeAll_of fun i a b ha hb => ?_
        obtain ⟨u', k3, k4⟩ := g2.at hb
        have h : (us.all fun u => al n t u) = true := h
        exact al_ok n (List.all_eq_true.mp h u' (List.mem_of_getElem? k3)) (g1 a (List.mem_of_getElem? ha)) k4
      | tv u m' =>
        obtain ⟨ds, rfl, _, g1⟩ := h1
        obtain ⟨es, rfl, _, g2⟩ := h2
        simp only [D.py, PySem.W.alike]
        exact alikeAll_of fun i a b ha hb => al_ok n (t := t) (u := u) h (g1 a (List.mem_of_getElem? ha)) (g2 b (List.mem_of_getElem? hb))
      | un u v =>
        have h : (al n (.tv t m) u && al n (.tv t m) v) = true := h
        rw [Bool.and_eq_true] at h
        rcases (h2 : Has u e ∨ Has v e) with h2 | h2
        · exact al_ok n h.1 h1 h2
        · exact al_ok n h.2 h1 h2
      | _ => cases h
    | lst t m =>
      cases u with
      | lst u m' =>
        obtain ⟨ds, rfl, _, g1⟩ := h1
        obtain ⟨es, rfl, _, g2⟩ := h2
        simp only [D.py, PySem.W.alike]
        exact alikeAll_of fun i a b ha hb => al_ok n (t := t) (u := u) h (g1 a (List.mem_of_getElem? ha)) (g2 b (List.mem_of_getElem? hb))
      | un u v =>
        have h : (al n (.lst t m) u && al n (.lst t m) v) = true := h
        rw [Bool.and_eq_true] at h
        rcases (h2 : Has u e ∨ Has v e) with h2 | h2
        · exact al_ok n h.1 h1 h2
        · exact al_ok n h.2 h1 h2
      | _ => cases h
    | bt t m => cases u <;> cases h
    | non => cases u <;> cases h
/-- a tuple of one thing at least -/
def Ty.ne : Ty → Bool
  | .tup (_ :: _) => true
  | .un t u => t.ne && u.ne
  | _ => false
def Ty.noT : Ty → Bool
  | .tup _ => false
  | .tv _ _ => false
  | .bt _ _ => false
  | .non => false
  | .un t u => t.noT && u.noT
  | _ => true
theorem Has.ne : ∀ {t : Ty} {d : D}, t.ne = true → Has t d → ∃ x r, d = .tup (x :: r)
  | .tup (t :: ts), d, _, h => by
    obtain ⟨ds, rfl, x, r, rfl, _⟩ := h
    exact ⟨x, r, rfl⟩
  | .un t u, d, hn, h => by
    rw [Ty.ne, Bool.and_eq_true] at hn
    rcases (h : Has t d ∨ Has u d) with h | h
    · exact Has.ne hn.1 h
    · exact Has.ne hn.2 h
theorem Has.noT : ∀ {t : Ty} {d : D}, t.noT = true → Has t d → (match d with | .tup _ => false | .tp _ => false | .non => false | _ => true) = true
  | .int _ _, d, _, h => by
    obtain ⟨_, rfl, _⟩ := h
    rfl
  | .bl, d, _, h => by
    obtain ⟨_, rfl⟩ := h
    rfl
  | .str _, d, _, h => by
    obtain ⟨_, rfl, _⟩ := h
    rfl
  | .lst _ _, d, _, h => by
    obtain ⟨_, rfl, _⟩ := h
    rfl
  | .un t u, d, hn, h => by
    rw [Ty.noT, Bool.and_eq_true] at hn
    rcases (h : Has t d ∨ Has u d) with h | h
    · exact Has.noT hn.1 h
    · exact Has.noT hn.2 h
theorem sort_ok {t : Ty} {ds : List D} (h : ∀ d ∈ ds, Has t d) (ha : t.al t = true) (hd : t.dep ≤ 50) (hk : (t.ne || t.noT) = true) (hl : ds.length ≤ 1000000) : sortedD [.lst ds] = some (.fr (.lst (sortL ds))) := by
  obtain ⟨h1, h2, h3⟩ := hasAll_py h
  have e : sortOk ds = true := by
    unfold sortOk
    rw [Bool.and_eq_true, Bool.and_eq_true, Bool.and_eq_true, Bool.and_eq_true]
    refine ⟨⟨⟨⟨h1, ?_⟩, decide_eq_true (by omega)⟩, small_lit (by omega)⟩, ?_⟩
    · rw [List.all_eq_true]
      intro x hx
      rw [List.all_eq_true]
      intro y hy
      rw [pys_map] at hx hy
      obtain ⟨x', hx', rfl⟩ := List.mem_map.mp hx
      obtain ⟨y', hy', rfl⟩ := List.mem_map.mp hy
      exact al_ok 20 ha (h x' hx') (h y' hy')
    · rcases Bool.or_eq_true_iff.mp hk with hk | hk
      · refine Bool.or_eq_true_iff.mpr (.inl (List.all_eq_true.mpr fun d hd => ?_))
        obtain ⟨x, r, rfl⟩ := (h d hd).ne hk
        rfl
      · refine Bool.or_eq_true_iff.mpr (.inr (List.all_eq_true.mpr fun d hd => ?_))
        exact (h d hd).noT hk
  rw [sortedD, if_pos e]
theorem sortL_perm (ds : List D) : (sortL ds).Perm ds := List.mergeSort_perm _ _
theorem sortL_mem {ds : List D} {d : D} : d ∈ sortL ds ↔ d ∈ ds := (sortL_perm ds).mem_iff
theorem eqD_py {d e : D} (h1 : d.isPy = true) (h2 : e.isPy = true) (h3 : depB 64 d = true) : eqD [d, e] = some (.im (.bl (eqB d e))) := by
  cases d <;> cases e <;> first | (simp [D.isPy] at h1; done) | (simp [D.isPy] at h2; done) | simp only [eqD, h1, h2, h3, Bool.true_or, Bool.and_self, if_true]
theorem neD_py {d e : D} (h1 : d.isPy = true) (h2 : e.isPy = true) (h3 : depB 64 d = true) : neD [d, e] = some (.im (.bl (!eqB d e))) := by
  cases d <;> cases e <;> first | (simp [D.isPy] at h1; done) | (simp [D.isPy] at h2; done) | simp only [neD, h1, h2, h3, Bool.true_or, Bool.and_self, if_true]
theorem eqB_int (i j : Int) : eqB (.int i) (.int j) = decide (i = j) := by
  unfold eqB
  simp only [D.py, PyData.eqv]
  by_cases h : i = j <;> simp [h]
theorem eqB_str (i j : Str) : eqB (.str i) (.str j) = decide (i = j) := by
  unfold eqB
  simp only [D.py, PyData.eqv]
  by_cases h : i = j <;> simp [h]
theorem eqB_bl (i j : Bool) : eqB (.bl i) (.bl j) = decide (i = j) := by
  unfold eqB
  simp only [D.py, PyData.eqv]
  cases i <;> cases j <;> rfl
theorem dep0 {d : D} (h : d.py.depth = 0) : depB 64 d = true := decide_eq_true (by omega)
theorem eqD_int (i j : Int) : eqD [.int i, .int j] = some (.im (.bl (decide (i = j)))) := by
  rw [eqD_py rfl rfl (dep0 rfl), eqB_int]
theorem eqD_str (i j : Str) : eqD [.str i, .str j] = some (.im (.bl (decide (i = j)))) := by
  rw [eqD_py rfl rfl (dep0 rfl), eqB_str]
theorem eqD_bl (i j : Bool) : eqD [.bl i, .bl j] = some (.im (.bl (decide (i = j)))) := by
  rw [eqD_py rfl rfl (dep0 rfl), eqB_bl]
theorem neD_int (i j : Int) : neD [.int i, .int j] = some (.im (.bl (!decide (i = j)))) := by
  rw [neD_py rfl rfl (dep0 rfl), eqB_int]
theorem neD_str (i j : Str) : neD [.str i, .str j] = some (.im (.bl (!decide (i = j)))) := by
  rw [neD_py rfl rfl (dep0 rfl), eqB_str]
theorem neD_bl (i j : Bool) : neD [.bl i, .bl j] = some (.im (.bl (!decide (i = j)))) := by
  rw [neD_py rfl rfl (dep0 rfl), eqB_bl]
theorem eqB_nil (ds : List D) : eqB (.lst ds) (.lst []) = ds.isEmpty := by
  unfold eqB
  cases ds <;> simp [D.py, pys, PyData.eqv, PyData.eqvAll]
theorem depB_lst {t : Ty} {ds : List D} (h : ∀ d ∈ ds, Has t d) (hd : t.dep ≤ 50) : depB 64 (.lst ds) = true := decide_eq_true (by
  have := (hasAll_py h).2.2
  simp only [D.py, PyData.depth]
  omega)
theorem neD_nil {t : Ty} {ds : List D} (h : ∀ d ∈ ds, Has t d) (hd : t.dep ≤ 50) : neD [.lst ds, .lst []] = some (.im (.bl (!ds.isEmpty))) := by
  rw [neD_py (by simpa [D.isPy] using (hasAll_py h).1) rfl (depB_lst h hd), eqB_nil]
theorem all_nil {P : D → Prop} : ∀ d ∈ ([] : List D), P d := fun _ h => by simp at h
theorem all_cons {P : D → Prop} {d : D} {ds : List D} (h : P d) (h' : ∀ e ∈ ds, P e) : ∀ e ∈ d :: ds, P e := fun e he => by
  rcases List.mem_cons.mp he with rfl | he
  · exact h
  · exact h' e he
/-- an index within a list of things that P holds of -/
theorem WO_atP {P : D → Prop} {l : List D} {i : Int} {K : D → Prop} (hp : ∀ d ∈ l, P d) (h0 : 0 ≤ i) (h1 : i < l.length) (q : ∀ a, P a → K a) : @WO _ (L2.atI l i) ⟨K⟩ :=
  WO_at h0 h1 fun j a _ ha => q a (hp a (List.mem_of_getElem? ha))
theorem HasL.nil : HasL [] [] := rfl
theorem HasL.cons {t : Ty} {ts : List Ty} {d : D} {ds : List D} (h : Has t d) (h' : HasL ts ds) : HasL (t :: ts) (d :: ds) := ⟨d, ds, rfl, h, h'⟩
theorem Has.mkT {ts : List Ty} {ds : List D} (h : HasL ts ds) : Has (.tup ts) (.tup ds) := ⟨ds, rfl, h⟩
theorem Has.mkV {t : Ty} {n : Nat} {ds : List D} (hl : ds.length ≤ n) (h : ∀ e ∈ ds, Has t e) : Has (.tv t n) (.tup ds) := ⟨ds, rfl, hl, h⟩
theorem Has.mkB {t : Ty} {n : Nat} {ds : List D} (hl : ds.length ≤ n) (h : ∀ e ∈ ds, Has t e) : Has (.bt t n) (.tp ds) := ⟨ds, rfl, hl, h⟩
theorem Has.mkI {lo hi i : Int} (h : lo ≤ i) (h' : i ≤ hi) : Has (.int lo hi) (.int i) := ⟨i, rfl, h, h'⟩
theorem Has.mkS {n : Nat} {x : Str} (h : As n x) : Has (.str n) (.str x) := ⟨x, rfl, h⟩
theorem WO_ifd {α : Type} {p : Prop} [Decidable p] {a : α} {K : α → Prop} (h : p) (q : K a) : @WO _ (if decide p = true then some a else none) ⟨K⟩ := WO_if (decide_eq_true h) q
theorem As.len {n : Nat} {x : Str} (h : As n x) : x.length ≤ n := h.1
def puts : Env → List (Nat × Sl) → Env
  | e, [] => e
  | e, (i, s) :: r => puts (e.set i s) r
theorem puts_nil {e : Env} : puts e [] = e := rfl
theorem puts_cons {e : Env} {i : Nat} {s : Sl} {r : List (Nat × Sl)} : puts e ((i, s) :: r) = puts (e.set i s) r := rfl
section
variable {e : Env}
theorem W_compE (P : Env → Nat → List D → Env → Prop) {vs : List Nat} {g : Vl → M Unit} {tt : M Bool} {te : M Vl} {Q : List D → Env → Prop} {ds : List D} (h0 : P e 0 [] e)
    (hs : ∀ i d ys e', ds[i]? = some d → P e i ys e' → @W _ (g (.im d)) e' ⟨fun _ e1 => @W _ tt e1 ⟨fun b e2 => @WB b ⟨@W _ te e2 ⟨fun r e3 => @W _ (frz r.hold) e3 ⟨fun y e4 => @WO _ (some (wipeE e4 vs)) ⟨fun e5 => P e (i + 1) (ys ++ [y]) e5⟩⟩⟩, @WO _ (some (wipeE e2 vs)) ⟨fun e5 => P e (i + 1) ys e5⟩⟩⟩⟩)
    (hq : ∀ ys e', P e ds.length ys e' → Q ys e') : @W _ (compL vs g tt te ds) e ⟨Q⟩ := W_comp (P e) h0 hs hq
theorem W_forE (P : Env → Nat → Env → Prop) {g : Vl → M Unit} {b : SM} {Q : Fl → Env → Prop} {ds : List D} (h0 : P e 0 e)
    (hs : ∀ i d e', ds[i]? = some d → P e i e' → @W _ (g (.im d)) e' ⟨fun _ e1 => @W _ b e1 ⟨goesOn (P e (i + 1)) Q⟩⟩)
    (hq : ∀ e', P e ds.length e' → Q .nx e') : @W _ (forL g b ds) e ⟨Q⟩ := W_for (P e) h0 hs hq
end
theorem cut_nat {α : Type} (ds : List α) (a b : Nat) : cutD ds (some (a : Int)) (some (b : Int)) = (ds.drop a).take (b - a) := by
  unfold cutD
  rw [HT.sIx_nat, HT.sIx_nat]
  by_cases h : a ≤ ds.length
  · rw [show min a ds.length = a by omega]
    by_cases hb : b ≤ ds.length
    · rw [show min b ds.length = b by omega]
    · rw [show min b ds.length = ds.length by omega, List.take_of_length_le (by simp), List.take_of_length_le (by simp; omega)]
  · rw [show min a ds.length = ds.length by omega, List.drop_length, List.drop_of_length_le (by omega)]
    simp
theorem cut_take {α : Type} (ds : List α) (b : Nat) : cutD ds none (some (b : Int)) = ds.take b := by
  have := cut_nat ds 0 b
  unfold cutD at this ⊢
  rw [HT.sIx_none]
  rw [show HT.sIx ds.length 0 (some ((0 : Nat) : Int)) = 0 by rw [HT.sIx_nat]; omega] at this
  simpa using this
theorem cut_drop {α : Type} (ds : List α) (a : Nat) : cutD ds (some (a : Int)) none = ds.drop a := by
  unfold cutD
  rw [HT.sIx_nat, HT.sIx_none]
  by_cases h : a ≤ ds.length
  · rw [show min a ds.length = a by omega, List.take_of_length_le (by simp)]
  · rw [show min a ds.length = ds.length by omega, List.drop_length, List.drop_of_length_le (by omega)]
    simp
def cutTo (R : Env → Prop) (Q : Fl → Env → Prop) : Fl → Env → Prop
  | .nx, e => R e
  | .bk, e => Q .bk e
  | .ct, e => Q .ct e
  | .rt v, e => Q (.rt v) e
theorem cut_nx {R : Env → Prop} {Q : Fl → Env → Prop} {e : Env} : cutTo R Q .nx e = R e := rfl
theorem cut_bk {R : Env → Prop} {Q : Fl → Env → Prop} {e : Env} : cutTo R Q .bk e = Q .bk e := rfl
theorem cut_ct {R : Env → Prop} {Q : Fl → Env → Prop} {e : Env} : cutTo R Q .ct e = Q .ct e := rfl
theorem cut_rt {R : Env → Prop} {Q : Fl → Env → Prop} {e : Env} {v : Vl} : cutTo R Q (.rt v) e = Q (.rt v) e := rfl
def seqs : List SM → SM → SM
  | [], t => t
  | m :: ms, t => sSeq m (seqs ms t)
theorem seqs_cut {t : SM} : ∀ {ms : List SM} {e e' : Env} {fl : Fl}, seqs ms sNil e = some (fl, e') → seqs ms t e = match fl with
    | .nx => t e'
    | fl => some (fl, e')
  | [], e, e', fl, h => by
    cases h
    rfl
  | m :: ms, e, e', fl, h => by
    have h : (match m e with | some (.nx, e') => seqs ms sNil e' | some (fl, e') => some (fl, e') | none => none) = some (fl, e') := h
    show (match m e with | some (.nx, e') => seqs ms t e' | some (fl, e') => some (fl, e') | none => none) = _
    cases hm : m e with
    | none =>
      rw [hm] at h
      cases h
    | some p =>
      obtain ⟨fl1, e1⟩ := p
      rw [hm] at h
      cases fl1 with
      | nx => exact seqs_cut h
      | bk => cases h; rfl
      | ct => cases h; rfl
      | rt v => cases h; rfl
theorem W_cutL {ms : List SM} {t : SM} {e : Env} {Q : Fl → Env → Prop} (R : Env → Prop) (h : @W _ (seqs ms sNil) e ⟨cutTo R Q⟩) (h2 : ∀ e', R e' → @W _ t e' ⟨Q⟩) : @W _ (seqs ms t) e ⟨Q⟩ := by
  obtain ⟨fl, e', h1, h3⟩ := h
  have key := seqs_cut (t := t) h1
  cases fl with
  | nx =>
    obtain ⟨fl, e2, h4, h5⟩ := h2 e' h3
    exact ⟨fl, e2, key.trans h4, h5⟩
  | bk => exact ⟨_, _, key, h3⟩
  | ct => exact ⟨_, _, key, h3⟩
  | rt v => exact ⟨_, _, key, h3⟩
theorem W_cut4 (R : Env → Env → Prop) {a b c d t : SM} {e : Env} {Q : Fl → Env → Prop} (h : @W _ (sSeq a (sSeq b (sSeq c (sSeq d sNil)))) e ⟨cutTo (R e) Q⟩) (h2 : ∀ e', R e e' → @W _ t e' ⟨Q⟩) : @W _ (sSeq a (sSeq b (sSeq c (sSeq d t)))) e ⟨Q⟩ := W_cutL (ms := [a, b, c, d]) (R e) h h2
end PD
namespace PD
variable [PD.TabL]
open PySem PySem.Spec PyProof.Rows L2
section
variable {K : PySem.W.Frag} {B : Hp} {κ : Type} [DecidableEq κ]
end
end PD
namespace PD
variable [PD.TabL]
open PySem PySem.Spec PyProof.Rows L2
theorem calm_em : calmS (some .em) = true := rfl
theorem calm_im {d : D} : calmS (some (.im d)) = true := rfl
theorem calm_none : calmS none = true := rfl
end PD
namespace PDZ
variable [PD.TabL]
open PySem PySem.Spec
section
variable {prog : Program} {w : World} {A : Around} {E : Value → Shared → Prop} {s : Shared} {zz ti tq j1 j2 T : Addr} {f1 f2 : List Addr} {n1 n2 i : Nat} {P1 P2 : Nat → Value → Prop} {St1 St2 : Nat → Heap → Prop} {fl : Bool} {oT : Obj}
end
end PDZ
namespace PDZ
variable [PD.TabL]
open PySem PySem.Spec
section
variable {prog : Program} {w : World} {zz ti tq j1 j2 : Addr} {f1 f2 : List Addr} {n1 n2 : Nat} {P1 P2 : Nat → Value → Prop} {St1 St2 : Nat → Heap → Prop}
/-- a zip just made -/
def ZNew (zz ti tq j1 j2 : Addr) (St1 St2 : Nat → Heap → Prop) (h : Heap) : Prop :=
  IsZip h zz ti tq .none ∧ IsTupOf2 h ti (.ref j1) (.ref j2) ∧ (∃ a b, IsTupOf2 h tq a b) ∧ St1 0 h ∧ St2 0 h
/-- what stands in a list of pairs: new tuples, one behind the other -/
def Prs (P1 P2 : Nat → Value → Prop) (bad : List Addr) (acc : Array Value) (i : Nat) (h : Heap) : Prop :=
  acc.size = i ∧ (∀ j v, acc[j]? = some v → ∃ T x y, v = .ref T ∧ P1 j x ∧ P2 j y ∧ IsTupOf2 h T x y ∧ ∀ b ∈ bad, b < T) ∧ ∀ (i j : Nat) (T U : Addr), i < j → acc[i]? = some (Value.ref T) → acc[j]? = some (Value.ref U) → T < U
theorem Prs.at {bad : List Addr} {acc : Array Value} {i : Nat} {h h' : Heap} (p : Prs P1 P2 bad acc i h) (hk : ∀ b o, b ∉ bad → h.get? b = some o → h'.get? b = some o) : Prs P1 P2 bad acc i h' :=
  ⟨p.1, fun j v e => let ⟨T, x, y, e1, e2, e3, e4, e5⟩ := p.2.1 j v e; ⟨T, x, y, e1, e2, e3, hk _ _ (fun m => Nat.lt_irrefl _ (e5 _ m)) e4, e5⟩, p.2.2⟩
theorem Prs.push {bad : List Addr} {acc : Array Value} {i : Nat} {h : Heap} {T : Addr} {x y : Value} (p : Prs P1 P2 bad acc i h) (h1 : P1 i x) (h2 : P2 i y) (h3 : IsTupOf2 h T x y) (h4 : ∀ b ∈ bad, b < T) (h5 : ∀ (j : Nat) (U : Addr), acc[j]? = some (Value.ref U) → U < T) : Prs P1 P2 bad (acc.push (.ref T)) (i + 1) h := by
  refine ⟨by rw [Array.size_push, p.1], fun j v e => ?_, fun i' j U W hij e1 e2 => ?_⟩
  · rw [Array.getElem?_push] at e
    split at e
    · rename_i q
      rw [p.1] at q
      cases e
      subst q
      exact ⟨T, x, y, rfl, h1, h2, h3, h4⟩
    · exact p.2.1 j v e
  · rw [Array.getElem?_push] at e1 e2
    split at e2
    · rename_i q
      cases e2
      rw [if_neg (by omega)] at e1
      exact h5 _ _ e1
    · rename_i q
      have := (Array.getElem?_eq_some_iff.mp e2).1
      rw [if_neg (by omega)] at e1
      exact p.2.2 i' j U W hij e1 e2
variable {A : Around} {R : Result → Shared → Prop}
theorem ZNew.keep {h h' : Heap} (D1 : Draws prog w A j1 f1 n1 P1 St1) (D2 : Draws prog w A j2 f2 n2 P2 St2) (ok : ZNew zz ti tq j1 j2 St1 St2 h) (hk : ∀ b o, b ∈ zz :: ti :: tq :: (f1 ++ f2) → h.get? b = some o → h'.get? b = some o) : ZNew zz ti tq j1 j2 St1 St2 h' := by
  obtain ⟨kz, kI, ⟨a, b, kO⟩, u1, u2⟩ := ok
  exact ⟨hk _ _ (by simp) kz, hk _ _ (by simp) kI, ⟨a, b, hk _ _ (by simp) kO⟩, D1.frame _ _ _ u1 fun b hb o e => hk b o (by simp [hb]) e, D2.frame _ _ _ u2 fun b hb o e => hk b o (by simp [hb]) e⟩
end
end PDZ
namespace PD
variable [PD.TabL]
open PySem PySem.Spec PyProof.Rows L2
section
variable {X : Cx} {e : Expr} {te : TE} {p apos cpos pos : Pos}
end
def kD : Key → D
  | .inl i => .int i
  | .inr x => .str x
def keyOk : Key → Bool
  | .inl _ => true
  | .inr x => PyData.strOk x
def itD (e : Key × D) : D := .tup [kD e.1, e.2]
section
variable {K : PySem.W.Frag} {A : Anc} {vs : L2.St} {env : Env}
end
section
variable {g : G0} {c : Ct} {o : Expr} {m : M Vl} {p apos cpos pos : Pos}
end
end PD
namespace PD
variable [PD.TabL]
open PySem PySem.Spec PyProof.Rows L2
def tupleBD : List D → Option Vl
  | [.lst ds] => some (.im (.tp ds))
  | _ => none
section
variable {X : Cx}
end
section
variable {X : Cx}
end
def ktD (k : List Key) : D := .tup (k.map kD)
section
variable {K : PySem.W.Frag} {A : Anc} {vs : L2.St} {env : Env}
end
end PD
namespace PD
variable [PD.TabL]
open PySem PySem.Spec PyProof.Rows L2 PDZ
/-- a thing that can be walked: where its iterator begins, and how it goes -/
structure Src (prog : Program) (w : World) (a : Addr) (items : Array Value) (h : Heap) (o : Obj) (Hh : Heap → Prop) (St : Addr → Nat → Heap → Prop) : Prop where
  begins : Begins (.ref a) o Hh
  now : Hh h
  lt : a < h.objs.size
  draws : ∀ (A : Around) (it : Addr), A.handled = none → a ≠ it → Draws prog w A it [it, a] items.size (fun i v => items[i]? = some v) (St it)
  start : ∀ (it : Addr) (h' : Heap), h'.get? it = some o → (∀ c u, h.get? c = some u → h'.get? c = some u) → St it 0 h'
  there : ∀ (it : Addr) (h' : Heap), St it 0 h' → ∀ b ∈ [it, a], ∃ u, h'.get? b = some u
/-- what is known of a zip that was just made -/
structure Zipped (prog : Program) (w : World) (xs ys : Array Value) (s : Shared) (h' : Heap) (f1 f2 : List Addr) (St1 St2 : Nat → Heap → Prop) : Prop where
  new : ZNew (s.heap.objs.size + 4) (s.heap.objs.size + 2) (s.heap.objs.size + 3) s.heap.objs.size (s.heap.objs.size + 1) St1 St2 h'
  sep : ZipSep2 (s.heap.objs.size + 4) (s.heap.objs.size + 2) (s.heap.objs.size + 3) s.heap.objs.size (s.heap.objs.size + 1) f1 f2
  d1 : ∀ A : Around, A.handled = none → Draws prog w A s.heap.objs.size f1 xs.size (fun i v => xs[i]? = some v) St1
  d2 : ∀ A : Around, A.handled = none → Draws prog w A (s.heap.objs.size + 1) f2 ys.size (fun i v => ys[i]? = some v) St2
  t1 : ∀ h, St1 0 h → ∀ b ∈ f1, ∃ o, h.get? b = some o
  t2 : ∀ h, St2 0 h → ∀ b ∈ f2, ∃ o, h.get? b = some o
  size : h'.objs.size = s.heap.objs.size + 5
  lts : ∀ b ∈ (s.heap.objs.size + 4) :: (s.heap.objs.size + 2) :: (s.heap.objs.size + 3) :: (f1 ++ f2), b < h'.objs.size
  keep : ∀ c o, s.heap.get? c = some o → h'.get? c = some o
/-- a list or a tuple -/
def SqA (K : PySem.W.Frag) (H : Hp) (a : Addr) (xs : List V) : Prop := SqL K H a xs ∨ SqT K H a xs
section
variable {X : Cx} {e1 e2 : Expr} {ta : TA} {p p2 pos pos2 : Pos}
theorem Zipped.old {prog : Program} {w : World} {us ws : Array Value} {s1 : Shared} {h' : Heap} {f1 f2 : List Addr} {St1 St2 : Nat → Heap → Prop} (Z : Zipped prog w us ws s1 h' f1 f2 St1 St2) {b : Addr} {o : Obj} (e : s1.heap.get? b = some o) :
    b ∉ [s1.heap.objs.size + 4, s1.heap.objs.size + 3, s1.heap.objs.size, s1.heap.objs.size + 1] := by
  have := Heap.lt_size e
  intro hm
  have hm : b = s1.heap.objs.size + 4 ∨ b = s1.heap.objs.size + 3 ∨ b = s1.heap.objs.size ∨ b = s1.heap.objs.size + 1 := by simpa using hm
  rcases hm with h | h | h | h
  · rw [h] at this; exact Nat.not_lt_of_le (Nat.le_add_right _ _) this
  · rw [h] at this; exact Nat.not_lt_of_le (Nat.le_add_right _ _) this
  · rw [h] at this; exact Nat.lt_irrefl _ this
  · rw [h] at this; exact Nat.not_lt_of_le (Nat.le_add_right _ _) this
end
section
variable {X : Cx} {e1 e2 : Expr} {ta : TA} {p p2 pos pos2 : Pos}
end
def seqD : D → Option (List D)
  | .lst ds => some ds
  | .tup ds => some ds
  | _ => none
section
variable {K : PySem.W.Frag} {A : Anc} {vs : L2.St} {env : Env}
theorem Rr.seq {B H : Hp} {d : D} {v : V} {ds : List D} (s : Same B H) (h : Rr K B H d v) (e : seqD d = some ds) : ∃ a xs, v = .ref a ∧ SqA K H a xs ∧ Rps K B ds xs := by
  cases d with
  | lst es =>
    cases e
    obtain ⟨a, xs, rfl, ha, r⟩ := h.lst s
    exact ⟨a, xs, rfl, .inl (.of ha), r⟩
  | tup es =>
    cases e
    obtain ⟨a, xs, rfl, ha, _, r⟩ := h.tup s
    exact ⟨a, xs, rfl, .inr (.of ha), r⟩
  | _ => cases e
end
section
variable {g : G0} {c : Ct} {a b : Expr} {ms : M (List Vl)} {p p2 pos pos2 : Pos}
end
end PD
namespace PDE
variable [PD.TabL]
open PySem PySem.Spec PyProof.Rows L2
section
variable {prog : Program} {w : World} {A : Around} {E : Value → Shared → Prop} {s : Shared}
end
end PDE
namespace PD
variable [PD.TabL]
open PySem PySem.Spec PyProof.Rows L2 PDE
def mEnumT (m : M Vl) : M (List D) := bd m fun r => bd (frz r.hold) fun d => match d with
  | .tup ds => rt (enumD 0 ds)
  | .tp ds => rt (enumD 0 ds)
  | _ => fun _ => none
section
variable {K : PySem.W.Frag} {A : Anc}
end
end PD
namespace PD
variable [PD.TabL]
open PySem PySem.Spec PyProof.Rows L2
theorem W_mEnumT {e : Env} {m : M Vl} {Q : List D → Env → Prop} : @W _ (mEnumT m) e ⟨Q⟩ = @W _ m e ⟨fun r e1 => @W _ (frz r.hold) e1 ⟨fun d e2 => @WO _ (seqT d) ⟨fun l => Q (enumD 0 l) e2⟩⟩⟩ := by
  unfold mEnumT
  simp only [W_eq, WO_eq, bd]
  cases m e with
  | none => rfl
  | some p =>
    dsimp only
    try rw [W_eq]
    cases frz p.1.hold p.2 with
    | none => rfl
    | some q =>
      obtain ⟨d, e2⟩ := q
      dsimp only
      try rw [WO_eq]
      cases d <;> rfl
end PD
namespace PD
variable [PD.TabL]
open PySem PySem.Spec PyProof.Rows L2
theorem dataLe_tot (k : D → PyData) : PySem.W.TotalLe (PySem.W.dataLe false k) := PySem.W.sortLe_total _ _ _
theorem sortL_pw (ds : List D) : (sortL ds).Pairwise fun a b => PySem.W.dataLe false D.py a b = true :=
  List.pairwise_mergeSort (fun a b c => (dataLe_tot D.py).trans a b c) (fun a b => by
    have := (dataLe_tot D.py).total a b
    simpa using this) ds
theorem dataLe_anti {a b : D} (h1 : PySem.W.dataLe false D.py a b = true) (h2 : PySem.W.dataLe false D.py b a = true) : PySem.W.keyToks a.py = PySem.W.keyToks b.py := by
  have g1 : (!(listOrd itemOrd).blt (PySem.W.keyToks b.py) (PySem.W.keyToks a.py)) = true := h1
  have g2 : (!(listOrd itemOrd).blt (PySem.W.keyToks a.py) (PySem.W.keyToks b.py)) = true := h2
  rw [Bool.not_eq_true'] at g1 g2
  exact (listOrd itemOrd).total _ _ g2 g1
end PD
namespace PD
variable [PD.TabL]
open PySem PySem.Spec PyProof.Rows L2
def gTl (n : Nat) (gs : List D → M Unit) : Vl → M Unit := fun r e => match r.hold with
  | .im (.lst ds) => if ds.length = n then gs ds e else none
  | _ => none
theorem W_gTl {e : Env} {n : Nat} {gs : List D → M Unit} {r : Vl} {Q : Unit → Env → Prop} : @W _ (gTl n gs r) e ⟨Q⟩ = @WO _ (match r.hold with | .im d => seqL d | _ => none) ⟨fun ds => @WC (decide (ds.length = n)) ⟨@W _ (gs ds) e ⟨Q⟩⟩⟩ := by
  unfold gTl WC
  simp only [W_eq, WO_eq]
  cases r.hold with
  | im d =>
    cases d <;> try rfl
    rename_i ds
    by_cases h : ds.length = n <;> simp [h, seqL]
  | fr d => rfl
  | bo i => rfl
end PD
namespace PD
variable [PD.TabL]
open PySem PySem.Spec PyProof.Rows L2
def rStr (K : PySem.W.Frag) : List V → Hp → VK → Prop := fun xs H Q => (∃ x, xs = [.str x] ∧ Q (.str x) H) ∨ ∃ p d, xs = [.ref p] ∧ Dp K H (.ref p) d ∧ d.showable = true ∧ d.canLay0 = true ∧ d.shown.length ≤ sizeLine ∧ d.depth ≤ 60 ∧ Q (.str d.shown) H
theorem call_strD {X : Cx} {k : Nat} (hr : Room k X.A) (hg : X.A.guards = some []) : CallR X (.type "str") (rStr X.K) := by
  intro pins s σ H xs us Q I r h
  rcases h with ⟨x, rfl, q⟩ | ⟨p, d, rfl, hd, sh, lay, sz, dep, q⟩
  · obtain ⟨u, rfl, ru⟩ := vals1 r
    obtain ⟨t, rfl⟩ := ru
    exact PySem.P.str_of_str ⟨.str _, H, I, ⟨_, rfl⟩, q⟩
  · rw [Vals.ref1 r]
    obtain ⟨as, rd⟩ := Dp.reads I _ _ _ hd rfl
    refine str_of_reads rd sh (PyData.noDict_hsm (PyData.hasDict_of_canLay _ lay)) hg (by have := hr.un; omega) (fun _ _ e => e) (fun h' u tk hk => ?_) sz
    exact ⟨.str _, H, I.kept (t' := tk) hk, ⟨u, rfl⟩, q⟩
theorem strD_seq {K : PySem.W.Frag} {A : Anc} {B H : Hp} {vs : L2.St} {env : Env} {d : D} {v : V} {res : Vl} {Q : VK} (S : SR K A B H vs env) (r : Rr K B H d v) (hp : ∃ p, v = .ref p) (e : reprD [d] = some res) (q : ∀ B' H' v, Same B B' → VRp K A B' H' vs env res v → Q v H') : rStr K [v] H Q := by
  obtain ⟨p, rfl⟩ := hp
  unfold reprD at e
  dsimp only at e
  split at e
  · rename_i hd
    cases e
    simp only [Bool.and_eq_true] at hd
    obtain ⟨⟨h1, h2⟩, h3⟩ := hd
    exact .inr ⟨p, d.py, rfl, r.dp S.same (shw_py h1).2, (shw_py h1).1, r.lay, Nat.le_trans (shown_leR h1 r) (of_decide_eq_true h2), of_decide_eq_true h3, q B H _ (Same.refl _) ⟨S, .txt _⟩⟩
  · cases e
def eTupB (ms : M (List Vl)) : M Vl := bd ms fun rs => bd (frzs rs) fun ds => if small ds.length = true then rt (.im (.tp ds)) else fun _ => none
section
variable {K : PySem.W.Frag} {A : Anc}
end
theorem W_eTupB {e : Env} {ms : M (List Vl)} {Q : Vl → Env → Prop} : @W _ (eTupB ms) e ⟨Q⟩ = @W _ ms e ⟨fun rs e1 => @W _ (frzs rs) e1 ⟨fun ds e2 => @WC (small ds.length) ⟨Q (.im (.tp ds)) e2⟩⟩⟩ := by
  unfold eTupB
  simp only [W_eq, bd]
  cases ms e with
  | none => rfl
  | some p =>
    dsimp only
    cases frzs p.1 p.2 with
    | none => rfl
    | some q =>
      dsimp only
      unfold WC
      cases small q.1.length <;> simp [rt]
def sAug (i : Nat) (f : Int → Int → Int) (m : M Vl) : SM := fun e => match e[i]? with
  | some (.im (.int a)) => match m e with
    | some (.im (.int b), e1) => match gN i (.im (.int (f a b))) e1 with
      | some (_, e2) => some (.nx, e2)
      | none => none
    | _ => none
  | _ => none
section
variable {K : PySem.W.Frag} {A : Anc}
end
section
variable {g : G0} {c : Ct} {a : Expr} {m : M Vl} {pos pos' : Pos}
end
theorem W_sAug {e : Env} {i : Nat} {f : Int → Int → Int} {m : M Vl} {Q : Fl → Env → Prop} : @W _ (sAug i f m) e ⟨Q⟩ = @WO _ e[i]? ⟨fun sl => match sl with
    | .im (.int a) => @W _ m e ⟨fun r e1 => match r with | .im (.int b) => @WO _ (setO e1 i (.im (.int (f a b)))) ⟨fun e2 => Q .nx e2⟩ | _ => False⟩
    | _ => False⟩ := by
  unfold sAug
  simp only [W_eq, WO_eq]
  cases e[i]? with
  | none => rfl
  | some sl =>
    cases sl with
    | em => rfl
    | ow d => rfl
    | io j d => rfl
    | bk _ _ => rfl
    | im d =>
      cases d with
      | int a =>
        dsimp only
        cases m e with
        | none => rfl
        | some p =>
          obtain ⟨r, e1⟩ := p
          cases r with
          | fr d => rfl
          | bo j => rfl
          | im d =>
            cases d with
            | int b =>
              dsimp only
              rw [← setO_ok]
              unfold gN
              by_cases h : i < e1.length
              · rw [if_pos h, if_pos h]
              · rw [if_neg h, if_neg h]
            | _ => rfl
      | _ => rfl
end PD
namespace PD
variable [PD.TabL]
open PySem PySem.Spec PyProof.Rows L2
theorem W_comp_fltA {α : Type} (c : α → D) (p : α → Bool) (f : α → D) {e : PD.Env} {vs : List Nat} {g : Vl → M Unit} {tt : M Bool} {te : M Vl} {Q : List D → PD.Env → Prop} : ∀ {ws : List α},
    (∀ w, w ∈ ws → @W _ (g (.im (c w))) e ⟨fun _ e1 => @W _ tt e1 ⟨fun b e2 => @WB b ⟨@W _ te e2 ⟨fun r e3 => @W _ (frz r.hold) e3 ⟨fun y e4 => p w = true ∧ y = f w ∧ wipeE e4 vs = e⟩⟩, p w = false ∧ wipeE e2 vs = e⟩⟩⟩) →
    Q ((ws.filter p).map f) e → @W _ (compL vs g tt te (ws.map c)) e ⟨Q⟩ := by
  intro ws hs hq
  refine ⟨_, _, ?_, hq⟩
  clear hq
  induction ws with
  | nil => rfl
  | cons w ws ih =>
    have ih := ih fun d hd => hs d (List.mem_cons_of_mem _ hd)
    obtain ⟨_, e1, h1, b, e2, h2, h3⟩ := hs w (List.mem_cons_self ..)
    rw [List.map_cons, compL]
    cases b with
    | false =>
      have h3 : @WB false ⟨_, p w = false ∧ wipeE e2 vs = e⟩ := h3
      rw [WB_false] at h3
      simp only [h1, h2, h3.2, ih, List.filter_cons, h3.1, Bool.false_eq_true, if_false]
    | true =>
      have h3 : @WB true ⟨@W _ te e2 ⟨fun r e3 => @W _ (frz r.hold) e3 ⟨fun y e4 => p w = true ∧ y = f w ∧ wipeE e4 vs = e⟩⟩, _⟩ := h3
      rw [WB_true] at h3
      obtain ⟨r, e3, h4, y, e4, h5, h6, h7, h8⟩ := h3
      have h7 : y = f w := h7
      have h6 : p w = true := h6
      have h8 : wipeE e4 vs = e := h8
      simp only [h1, h2, h4, h5, h8, ih, List.filter_cons, h6, if_true, List.map_cons, h7]
/-- a comprehension without a test over things told by a -/
theorem W_comp_mapA {α : Type} (c : α → D) (f : α → D) {e : PD.Env} {vs : List Nat} {g : Vl → M Unit} {te : M Vl} {Q : List D → PD.Env → Prop} {ws : List α}
    (h : ∀ w, w ∈ ws → @W _ (g (.im (c w))) e ⟨fun _ e1 => @W _ te e1 ⟨fun r e3 => @W _ (frz r.hold) e3 ⟨fun y e4 => y = f w ∧ wipeE e4 vs = e⟩⟩⟩)
    (q : Q (ws.map f) e) : @W _ (compL vs g (rt true) te (ws.map c)) e ⟨Q⟩ := by
  refine W_comp_fltA c (fun _ => true) f (fun w hw => ?_) (by rw [List.filter_eq_self.mpr (fun _ _ => rfl)]; exact q)
  refine W_mono (h w hw) fun _ e1 h1 => ?_
  rw [W_rt, WB_true]
  refine W_mono h1 fun r e3 h2 => ?_
  exact W_mono h2 fun y e4 h3 => ⟨rfl, h3.1, h3.2⟩
theorem at_map {α β : Type} {c : α → β} {l : List α} {i : Nat} {d : β} (h : (l.map c)[i]? = some d) : ∃ a, l[i]? = some a ∧ a ∈ l ∧ d = c a := by
  rw [List.getElem?_map] at h
  obtain ⟨f, hf, rfl⟩ := Option.map_eq_some_iff.mp h
  exact ⟨f, hf, List.mem_of_getElem? hf, rfl⟩
theorem at_of {α : Type} {l : List α} {i : Nat} (h : i < l.length) : ∃ a, l[i]? = some a ∧ a ∈ l := ⟨l[i], List.getElem?_eq_getElem h, List.getElem_mem h⟩
theorem WO_atA {α : Type} (c : α → D) {l : List α} {i : Int} {K : D → Prop} (h0 : 0 ≤ i) (h1 : i < l.length) (q : ∀ (j : Nat) (a : α), i = j → l[j]? = some a → K (c a)) : @WO _ (L2.atI (l.map c) i) ⟨K⟩ :=
  WO_at h0 (by rw [List.length_map]; exact h1) fun j a hj ha => by
    obtain ⟨x, hx, _, rfl⟩ := at_map ha
    exact q j x hj hx
theorem atI_map {α : Type} (c : α → D) {l : List α} {j : Nat} {a : α} (h : l[j]? = some a) : L2.atI (l.map c) (j : Int) = some (c a) := at_nat (by rw [List.getElem?_map, h]; rfl)
theorem flat_strs (xs : List Str) : (xs.map D.str).all flatD = true := List.all_eq_true.mpr fun d hd => by
  obtain ⟨x, _, rfl⟩ := List.mem_map.mp hd
  rfl
theorem strs_py (xs : List Str) : arePy (xs.map D.str) = true := by
  rw [arePy_all]
  exact List.all_eq_true.mpr fun d hd => by
    obtain ⟨x, _, rfl⟩ := List.mem_map.mp hd
    rfl
theorem strs_dep (xs : List Str) : PyData.depthAll (pys (xs.map D.str)) = 0 := by
  induction xs with
  | nil => rfl
  | cons x r ih => simp [pys, PyData.depthAll, D.py, PyData.depth, ih]
theorem any_strs (x : Str) (xs : List Str) : ((xs.map D.str).any fun z => eqB z (.str x)) = decide (x ∈ xs) := by
  induction xs with
  | nil => simp
  | cons y r ih =>
    rw [List.map_cons, List.any_cons, ih, eqB_str]
    by_cases h : y = x
    · simp [h]
    · have : ¬ x = y := fun z => h z.symm
      simp [h, this]
theorem inB_strs (x : Str) (xs : List Str) : inB [.str x, .lst (xs.map D.str)] = some (decide (x ∈ xs)) := by
  have e : ((D.str x).isPy && arePy (xs.map D.str) && depB 64 (.str x) && depsB 63 (xs.map D.str)) = true := by
    rw [strs_py]
    have h1 : depB 64 (.str x) = true := rfl
    have h2 : depsB 63 (xs.map D.str) = true := decide_eq_true (by rw [strs_dep]; decide)
    rw [h1, h2]
    rfl
  show (if ((D.str x).isPy && arePy (xs.map D.str) && depB 64 (.str x) && depsB 63 (xs.map D.str)) = true then some _ else none) = _
  rw [if_pos e, any_strs]
theorem inB_strsT (x : Str) (xs : List Str) : inB [.str x, .tup (xs.map D.str)] = some (decide (x ∈ xs)) := by
  show (if (flatD (.str x) && (xs.map D.str).all flatD) = true then some _ else none) = _
  rw [flat_strs, any_strs]
  rfl
theorem notIn_strs (x : Str) (xs : List Str) : notInD [.str x, .lst (xs.map D.str)] = some (.im (.bl (!decide (x ∈ xs)))) := by
  rw [notInD, inB_strs]
  rfl
theorem inD_strsT (x : Str) (xs : List Str) : inD [.str x, .tup (xs.map D.str)] = some (.im (.bl (decide (x ∈ xs)))) := by
  rw [inD, inB_strsT]
  rfl
theorem strs_has {n : Nat} {xs : List Str} (h : ∀ x ∈ xs, As n x) : ∀ d ∈ xs.map D.str, Has (.str n) d := fun d hd => by
  obtain ⟨x, hx, rfl⟩ := List.mem_map.mp hd
  exact Has.mkS (h x hx)
/-- sorted things that are told by a -/
theorem sortL_map {α : Type} (c : α → D) (l : List α) : ∃ m : List α, m.Perm l ∧ sortL (l.map c) = m.map c :=
  ⟨l.mergeSort fun a b => PySem.W.dataLe false D.py (c a) (c b), List.mergeSort_perm _ _, (List.map_mergeSort (f := c) (fun a _ b _ => rfl)).symm⟩
end PD
namespace PD
variable [PD.TabL]
open PySem PySem.Spec PyProof.Rows L2
theorem As.empty {n : Nat} : As n (Str.ofString "") := ⟨by show (Str.ofString "").length ≤ n; rw [show (Str.ofString "").length = 0 by decide +kernel]; omega, fun c hc => by
  have : (Str.ofString "").cps.toList = [] := by decide +kernel
  rw [this] at hc
  simp at hc⟩
abbrev noS : Str := Str.ofString ""
theorem noS_len {x : Str} (h : 1 ≤ x.length) : x ≠ noS := fun z => by
  rw [z, show noS.length = 0 by decide +kernel] at h
  omega
structure Fld where
  nm : Str
  ow : Str
  bl : Str
  dy : Int
  so : Int
def Fld.d (f : Fld) : D := .tup [.str f.nm, .str f.ow, .str f.bl, .int f.dy, .int f.so]
def Fld.ok (f : Fld) : Prop := (As 8 f.nm ∧ 1 ≤ f.nm.length) ∧ As 8 f.ow ∧ As 8 f.bl ∧ 1 ≤ f.dy ∧ f.dy ≤ 999 ∧ 0 ≤ f.so ∧ f.so ≤ 99
theorem Fld.ok.ne {f : Fld} (h : f.ok) : f.nm ≠ noS := noS_len h.1.2
structure Gt where
  nm : Str
  mo : Int
  ri : List Str
  al : List Str
def Gt.d (g : Gt) : D := .tup [.str g.nm, .int g.mo, .tup (g.ri.map D.str), .tup (g.al.map D.str)]
structure Gt.ok (fl : List Fld) (g : Gt) : Prop where
  nm : As 8 g.nm
  m0 : 1 ≤ g.mo
  m1 : g.mo ≤ 999
  r0 : 1 ≤ g.ri.length
  r1 : g.ri.length ≤ 12
  r2 : ∀ x ∈ g.ri, As 8 x
  a0 : 1 ≤ g.al.length
  a1 : g.al.length ≤ 9
  a2 : ∀ x ∈ g.al, As 8 x
  a3 : ∀ x ∈ g.al, ∃ f ∈ fl, f.nm = x
def terD (fl : List Fld) (gs : List Gt) : D := .tup [.tup (fl.map Fld.d), .tup (gs.map Gt.d)]
def FieldT : Ty := .tup [.str 8, .str 8, .str 8, .int 1 999, .int 0 99]
def GateT : Ty := .tup [.str 8, .int 1 999, .tv (.str 8) 12, .tv (.str 8) 9]
theorem Fld.ok.has {f : Fld} (h : f.ok) : Has FieldT f.d := by
  obtain ⟨⟨h1, _⟩, h2, h3, h4, h5, h6, h7⟩ := h
  exact Has.mkT (.cons (Has.mkS h1) (.cons (Has.mkS h2) (.cons (Has.mkS h3) (.cons (Has.mkI h4 h5) (.cons (Has.mkI h6 h7) .nil)))))
theorem Gt.ok.has {fl : List Fld} {g : Gt} (h : g.ok fl) : Has GateT g.d :=
  Has.mkT (.cons (Has.mkS h.nm) (.cons (Has.mkI h.m0 h.m1) (.cons (Has.mkV (by rw [List.length_map]; exact h.r1) (strs_has h.r2)) (.cons (Has.mkV (by rw [List.length_map]; exact h.a1) (strs_has h.a2)) .nil))))
/-- below lies nothing, or a field that was made before the k-th -/
def Blw (fl : List Fld) (k : Nat) (x : Str) : Prop := x = noS ∨ ∃ j h, j < k ∧ fl[j]? = some h ∧ h.nm = x
theorem Blw.app {fl gl : List Fld} {k : Nat} {x : Str} (h : Blw fl k x) : Blw (fl ++ gl) k x := by
  rcases h with h | ⟨j, g, h1, h2, h3⟩
  · exact .inl h
  · exact .inr ⟨j, g, h1, by rw [List.getElem?_append_left (List.getElem?_eq_some_iff.mp h2).1]; exact h2, h3⟩
structure TerrOk (fl : List Fld) : Prop where
  nd : (fl.map Fld.nm).Nodup
  ok : ∀ f ∈ fl, f.ok
  dag : ∃ rk : Str → Nat, ∀ f ∈ fl, rk f.nm < fl.length ∧ (f.bl = noS ∨ ∃ g ∈ fl, g.nm = f.bl ∧ rk f.bl < rk f.nm)
abbrev Bk := List (Str × Int)
def bD (p : Str × Int) : D := .tup [.str p.1, .int p.2]
def lkB (bl : Bk) (f : Str) : Option Int := (bl.find? fun p => decide (p.1 = f)).map (·.2)
structure Lt where
  g : Str
  f : Str
  m : Int
def Lt.d (l : Lt) : D := .tup [.str l.g, .str l.f, .int l.m]
structure Dn where
  ra : Int
  su : Int
  ls : List Lt
  bs : Bk
def Dn.d (n : Dn) : D := .tup [.int n.ra, .int n.su, .tup (n.ls.map Lt.d), .tp (n.bs.map bD)]
structure Dn.ok (n : Dn) : Prop where
  r0 : 0 ≤ n.ra
  r1 : n.ra ≤ 99
  s0 : 0 ≤ n.su
  s1 : n.su ≤ 99
  ll : n.ls.length ≤ 40
  l0 : ∀ l ∈ n.ls, As 8 l.g ∧ As 8 l.f ∧ 0 ≤ l.m ∧ l.m ≤ 99999
  bl : n.bs.length ≤ 8
  b0 : (n.bs.map (·.1)).Nodup
  b1 : ∀ b ∈ n.bs, As 8 b.1 ∧ 0 ≤ b.2 ∧ b.2 ≤ 998
def LtT : Ty := .tup [.str 8, .str 8, .int 0 99999]
def BkT : Ty := .tup [.str 8, .int 0 998]
def DnT : Ty := .tup [.int 0 99, .int 0 99, .tv LtT 40, .bt BkT 8]
theorem Dn.ok.lhas {n : Dn} (h : n.ok) : ∀ d ∈ n.ls.map Lt.d, Has LtT d := fun d hd => by
  obtain ⟨l, hl, rfl⟩ := List.mem_map.mp hd
  obtain ⟨a, b, c, e⟩ := h.l0 l hl
  exact Has.mkT (.cons (Has.mkS a) (.cons (Has.mkS b) (.cons (Has.mkI c e) .nil)))
theorem Dn.ok.bhas {n : Dn} (h : n.ok) : ∀ d ∈ n.bs.map bD, Has BkT d := fun d hd => by
  obtain ⟨l, hl, rfl⟩ := List.mem_map.mp hd
  obtain ⟨a, b, c⟩ := h.b1 l hl
  exact Has.mkT (.cons (Has.mkS a) (.cons (Has.mkI b c) .nil))
theorem Dn.ok.has {n : Dn} (h : n.ok) : Has DnT n.d :=
  Has.mkT (.cons (Has.mkI h.r0 h.r1) (.cons (Has.mkI h.s0 h.s1) (.cons (Has.mkV (by rw [List.length_map]; exact h.ll) h.lhas) (.cons (Has.mkB (by rw [List.length_map]; exact h.bl) h.bhas) .nil))))
structure Rw where
  ra : Int
  le : Int
  ca : Int
  rn : Int
  so : Int
  dr : Int
  st : Int
def Rw.d (r : Rw) : D := .tup [.int r.ra, .int r.le, .int r.ca, .int r.rn, .int r.so, .int r.dr, .int r.st]
def mn (a b : Int) : Int := if b < a then b else a
def Dn.into (n : Dn) (x : Str) : Int := ((n.ls.filter fun l => decide (l.f = x)).map Lt.m).sum
def Dn.lvl (n : Dn) (f : Fld) : Int := (lkB n.bs f.nm).getD f.dy
/-- what is full, held, soaks, is drunk -/
def rowOf (f : Fld) (w : Int) (n : Dn) (ca : Int) : Rw :=
  let full := w + n.ra + n.into f.nm + ca
  let left := mn full (n.lvl f)
  let soaked := mn left f.so
  let drunk := mn (left - soaked) n.su
  ⟨n.ra, n.into f.nm, ca, full - left, soaked, drunk, left - soaked - drunk⟩
/-- what comes from those above x -/
def cameOf : List Fld → List Rw → Str → Int
  | f :: fl, r :: rs, x => (if f.bl = x then r.rn else 0) + cameOf fl rs x
  | _, _, _ => 0
/-- the rows of a day -/
structure Sol (fl : List Fld) (st : List Int) (n : Dn) (rs : List Rw) : Prop where
  len : rs.length = fl.length
  row : ∀ (i : Nat) (f : Fld) (w : Int) (r : Rw), fl[i]? = some f → st[i]? = some w → rs[i]? = some r → r = rowOf f w n (cameOf fl rs f.nm)
end PD
namespace PD
variable [PD.TabL]
open PySem PySem.Spec PyProof.Rows L2
section
variable {fl : List Fld} {st : List Int} {n : Dn}
end
abbrev T3 := Fld × Int × Rw
/-- in the order of going down -/
structure OrdT (ts os : List T3) : Prop where
  perm : os.Perm ts
  down : ∀ (i j : Nat) (t u : T3), os[i]? = some t → os[j]? = some u → u.1.bl = t.1.nm → j < i
theorem Fld_i0 (x : Fld) : ixD [Fld.d x, .int 0] = some (.im (.str x.nm)) := by
  show (L2.atI [.str x.nm, .str x.ow, .str x.bl, .int x.dy, .int x.so] 0).map Vl.im = _
  rw [at0]
  rfl
theorem Fld_i1 (x : Fld) : ixD [Fld.d x, .int 1] = some (.im (.str x.ow)) := by
  show (L2.atI [.str x.nm, .str x.ow, .str x.bl, .int x.dy, .int x.so] 1).map Vl.im = _
  rw [at1]
  rfl
theorem Fld_i2 (x : Fld) : ixD [Fld.d x, .int 2] = some (.im (.str x.bl)) := by
  show (L2.atI [.str x.nm, .str x.ow, .str x.bl, .int x.dy, .int x.so] 2).map Vl.im = _
  rw [at2]
  rfl
theorem Fld_i3 (x : Fld) : ixD [Fld.d x, .int 3] = some (.im (.int x.dy)) := by
  show (L2.atI [.str x.nm, .str x.ow, .str x.bl, .int x.dy, .int x.so] 3).map Vl.im = _
  rw [at3]
  rfl
theorem Fld_i4 (x : Fld) : ixD [Fld.d x, .int 4] = some (.im (.int x.so)) := by
  show (L2.atI [.str x.nm, .str x.ow, .str x.bl, .int x.dy, .int x.so] 4).map Vl.im = _
  rw [at4]
  rfl
theorem W_gT_Fld {e : Env} {x : Fld} {gs : List D → M Unit} {Q : Unit → Env → Prop} : @W _ (gT 5 gs (.im (Fld.d x))) e ⟨Q⟩ = @W _ (gs [.str x.nm, .str x.ow, .str x.bl, .int x.dy, .int x.so]) e ⟨Q⟩ := by
  show @W _ (gT 5 gs (.im (.tup [.str x.nm, .str x.ow, .str x.bl, .int x.dy, .int x.so]))) e ⟨Q⟩ = _
  rw [W_gT, show decide (([.str x.nm, .str x.ow, .str x.bl, .int x.dy, .int x.so] : List D).length = 5) = true from rfl, WC_true]
theorem Gt_i0 (x : Gt) : ixD [Gt.d x, .int 0] = some (.im (.str x.nm)) := by
  show (L2.atI [.str x.nm, .int x.mo, .tup (x.ri.map D.str), .tup (x.al.map D.str)] 0).map Vl.im = _
  rw [at0]
  rfl
theorem Gt_i1 (x : Gt) : ixD [Gt.d x, .int 1] = some (.im (.int x.mo)) := by
  show (L2.atI [.str x.nm, .int x.mo, .tup (x.ri.map D.str), .tup (x.al.map D.str)] 1).map Vl.im = _
  rw [at1]
  rfl
theorem Gt_i2 (x : Gt) : ixD [Gt.d x, .int 2] = some (.im (.tup (x.ri.map D.str))) := by
  show (L2.atI [.str x.nm, .int x.mo, .tup (x.ri.map D.str), .tup (x.al.map D.str)] 2).map Vl.im = _
  rw [at2]
  rfl
theorem Gt_i3 (x : Gt) : ixD [Gt.d x, .int 3] = some (.im (.tup (x.al.map D.str))) := by
  show (L2.atI [.str x.nm, .int x.mo, .tup (x.ri.map D.str), .tup (x.al.map D.str)] 3).map Vl.im = _
  rw [at3]
  rfl
theorem W_gT_Gt {e : Env} {x : Gt} {gs : List D → M Unit} {Q : Unit → Env → Prop} : @W _ (gT 4 gs (.im (Gt.d x))) e ⟨Q⟩ = @W _ (gs [.str x.nm, .int x.mo, .tup (x.ri.map D.str), .tup (x.al.map D.str)]) e ⟨Q⟩ := by
  show @W _ (gT 4 gs (.im (.tup [.str x.nm, .int x.mo, .tup (x.ri.map D.str), .tup (x.al.map D.str)]))) e ⟨Q⟩ = _
  rw [W_gT, show decide (([.str x.nm, .int x.mo, .tup (x.ri.map D.str), .tup (x.al.map D.str)] : List D).length = 4) = true from rfl, WC_true]
theorem Lt_i0 (x : Lt) : ixD [Lt.d x, .int 0] = some (.im (.str x.g)) := by
  show (L2.atI [.str x.g, .str x.f, .int x.m] 0).map Vl.im = _
  rw [at0]
  rfl
theorem Lt_i1 (x : Lt) : ixD [Lt.d x, .int 1] = some (.im (.str x.f)) := by
  show (L2.atI [.str x.g, .str x.f, .int x.m] 1).map Vl.im = _
  rw [at1]
  rfl
theorem Lt_i2 (x : Lt) : ixD [Lt.d x, .int 2] = some (.im (.int x.m)) := by
  show (L2.atI [.str x.g, .str x.f, .int x.m] 2).map Vl.im = _
  rw [at2]
  rfl
theorem W_gT_Lt {e : Env} {x : Lt} {gs : List D → M Unit} {Q : Unit → Env → Prop} : @W _ (gT 3 gs (.im (Lt.d x))) e ⟨Q⟩ = @W _ (gs [.str x.g, .str x.f, .int x.m]) e ⟨Q⟩ := by
  show @W _ (gT 3 gs (.im (.tup [.str x.g, .str x.f, .int x.m]))) e ⟨Q⟩ = _
  rw [W_gT, show decide (([.str x.g, .str x.f, .int x.m] : List D).length = 3) = true from rfl, WC_true]
theorem bD_i0 (x : Str × Int) : ixD [bD x, .int 0] = some (.im (.str x.1)) := by
  show (L2.atI [.str x.1, .int x.2] 0).map Vl.im = _
  rw [at0]
  rfl
theorem bD_i1 (x : Str × Int) : ixD [bD x, .int 1] = some (.im (.int x.2)) := by
  show (L2.atI [.str x.1, .int x.2] 1).map Vl.im = _
  rw [at1]
  rfl
theorem W_gT_bD {e : Env} {x : Str × Int} {gs : List D → M Unit} {Q : Unit → Env → Prop} : @W _ (gT 2 gs (.im (bD x))) e ⟨Q⟩ = @W _ (gs [.str x.1, .int x.2]) e ⟨Q⟩ := by
  show @W _ (gT 2 gs (.im (.tup [.str x.1, .int x.2]))) e ⟨Q⟩ = _
  rw [W_gT, show decide (([.str x.1, .int x.2] : List D).length = 2) = true from rfl, WC_true]
theorem Dn_i0 (x : Dn) : ixD [Dn.d x, .int 0] = some (.im (.int x.ra)) := by
  show (L2.atI [.int x.ra, .int x.su, .tup (x.ls.map Lt.d), .tp (x.bs.map bD)] 0).map Vl.im = _
  rw [at0]
  rfl
theorem Dn_i1 (x : Dn) : ixD [Dn.d x, .int 1] = some (.im (.int x.su)) := by
  show (L2.atI [.int x.ra, .int x.su, .tup (x.ls.map Lt.d), .tp (x.bs.map bD)] 1).map Vl.im = _
  rw [at1]
  rfl
theorem Dn_i2 (x : Dn) : ixD [Dn.d x, .int 2] = some (.im (.tup (x.ls.map Lt.d))) := by
  show (L2.atI [.int x.ra, .int x.su, .tup (x.ls.map Lt.d), .tp (x.bs.map bD)] 2).map Vl.im = _
  rw [at2]
  rfl
theorem Dn_i3 (x : Dn) : ixD [Dn.d x, .int 3] = some (.im (.tp (x.bs.map bD))) := by
  show (L2.atI [.int x.ra, .int x.su, .tup (x.ls.map Lt.d), .tp (x.bs.map bD)] 3).map Vl.im = _
  rw [at3]
  rfl
theorem W_gT_Dn {e : Env} {x : Dn} {gs : List D → M Unit} {Q : Unit → Env → Prop} : @W _ (gT 4 gs (.im (Dn.d x))) e ⟨Q⟩ = @W _ (gs [.int x.ra, .int x.su, .tup (x.ls.map Lt.d), .tp (x.bs.map bD)]) e ⟨Q⟩ := by
  show @W _ (gT 4 gs (.im (.tup [.int x.ra, .int x.su, .tup (x.ls.map Lt.d), .tp (x.bs.map bD)]))) e ⟨Q⟩ = _
  rw [W_gT, show decide (([.int x.ra, .int x.su, .tup (x.ls.map Lt.d), .tp (x.bs.map bD)] : List D).length = 4) = true from rfl, WC_true]
theorem Rw_i0 (x : Rw) : ixD [Rw.d x, .int 0] = some (.im (.int x.ra)) := by
  show (L2.atI [.int x.ra, .int x.le, .int x.ca, .int x.rn, .int x.so, .int x.dr, .int x.st] 0).map Vl.im = _
  rw [at0]
  rfl
theorem Rw_i1 (x : Rw) : ixD [Rw.d x, .int 1] = some (.im (.int x.le)) := by
  show (L2.atI [.int x.ra, .int x.le, .int x.ca, .int x.rn, .int x.so, .int x.dr, .int x.st] 1).map Vl.im = _
  rw [at1]
  rfl
theorem Rw_i2 (x : Rw) : ixD [Rw.d x, .int 2] = some (.im (.int x.ca)) := by
  show (L2.atI [.int x.ra, .int x.le, .int x.ca, .int x.rn, .int x.so, .int x.dr, .int x.st] 2).map Vl.im = _
  rw [at2]
  rfl
theorem Rw_i3 (x : Rw) : ixD [Rw.d x, .int 3] = some (.im (.int x.rn)) := by
  show (L2.atI [.int x.ra, .int x.le, .int x.ca, .int x.rn, .int x.so, .int x.dr, .int x.st] 3).map Vl.im = _
  rw [at3]
  rfl
theorem Rw_i4 (x : Rw) : ixD [Rw.d x, .int 4] = some (.im (.int x.so)) := by
  show (L2.atI [.int x.ra, .int x.le, .int x.ca, .int x.rn, .int x.so, .int x.dr, .int x.st] 4).map Vl.im = _
  rw [at4]
  rfl
theorem Rw_i5 (x : Rw) : ixD [Rw.d x, .int 5] = some (.im (.int x.dr)) := by
  show (L2.atI [.int x.ra, .int x.le, .int x.ca, .int x.rn, .int x.so, .int x.dr, .int x.st] 5).map Vl.im = _
  rw [at5]
  rfl
theorem Rw_i6 (x : Rw) : ixD [Rw.d x, .int 6] = some (.im (.int x.st)) := by
  show (L2.atI [.int x.ra, .int x.le, .int x.ca, .int x.rn, .int x.so, .int x.dr, .int x.st] 6).map Vl.im = _
  rw [at6]
  rfl
theorem W_gT_Rw {e : Env} {x : Rw} {gs : List D → M Unit} {Q : Unit → Env → Prop} : @W _ (gT 7 gs (.im (Rw.d x))) e ⟨Q⟩ = @W _ (gs [.int x.ra, .int x.le, .int x.ca, .int x.rn, .int x.so, .int x.dr, .int x.st]) e ⟨Q⟩ := by
  show @W _ (gT 7 gs (.im (.tup [.int x.ra, .int x.le, .int x.ca, .int x.rn, .int x.so, .int x.dr, .int x.st]))) e ⟨Q⟩ = _
  rw [W_gT, show decide (([.int x.ra, .int x.le, .int x.ca, .int x.rn, .int x.so, .int x.dr, .int x.st] : List D).length = 7) = true from rfl, WC_true]
theorem Ter_i0 (fl : List Fld) (gs : List Gt) : ixD [terD fl gs, .int 0] = some (.im (.tup (fl.map Fld.d))) := by
  show (L2.atI [D.tup (fl.map Fld.d), D.tup (gs.map Gt.d)] 0).map Vl.im = _
  rw [at0]
  rfl
theorem Ter_i1 (fl : List Fld) (gs : List Gt) : ixD [terD fl gs, .int 1] = some (.im (.tup (gs.map Gt.d))) := by
  show (L2.atI [D.tup (fl.map Fld.d), D.tup (gs.map Gt.d)] 1).map Vl.im = _
  rw [at1]
  rfl
end PD
namespace PD
variable [PD.TabL]
open PySem PySem.Spec PyProof.Rows L2
section
variable {prog : Program} {w : World} {A : Around} {E : Value → Shared → Prop} {s : Shared} {l : Addr} {xs : Array (Int × Tok)}
end
section
variable {prog : Program} {w : World} {A : Around} {E : Value → Shared → Prop} {s : Shared} {l : Addr} {its : List Value} {ns : List Int} {Q : Value → Shared → Prop}
end
section
variable {X : Cx}
end
end PD
namespace PD
variable [PD.TabL]
open PySem PySem.Spec PyProof.Rows L2
theorem i63_0 : in63 (0 : Int) = true := by decide
theorem i63_1 : in63 (1 : Int) = true := by decide
structure RowFacts (f : Fld) (w : Int) (n : Dn) (ca : Int) (r : Rw) : Prop where
  ra : r.ra = n.ra
  le : r.le = n.into f.nm
  ca : r.ca = ca
  all : w + r.ra + r.le + r.ca = r.rn + r.so + r.dr + r.st
  rn0 : 0 ≤ r.rn
  so0 : 0 ≤ r.so
  dr0 : 0 ≤ r.dr
  st0 : 0 ≤ r.st
  held : r.so + r.dr + r.st ≤ n.lvl f
  full : 0 < r.rn → r.so + r.dr + r.st = n.lvl f
  so1 : r.so ≤ f.so
  dr1 : r.dr ≤ n.su
  dry : r.st = 0 ∨ (r.so = f.so ∧ r.dr = n.su)
  ra0 : 0 ≤ r.ra
  le0 : 0 ≤ r.le
  ca0 : 0 ≤ r.ca
end PD
namespace PD
variable [PD.TabL]
open PySem PySem.Spec PyProof.Rows L2 PDZ
def SqM (K : PySem.W.Frag) (k : Bool) (H : Hp) (a : Addr) (xs : List V) : Prop := match k with
  | true => SqT K H a xs
  | false => SqL K H a xs
def ItM (k : Bool) (h : Heap) (it a : Addr) (i : Nat) : Prop := match k with
  | true => h.IsTupleIter it a i
  | false => h.IsListIter it a i
def IsM (k : Bool) (h : Heap) (a : Addr) (its : Array Value) : Prop := match k with
  | true => h.IsTuple a its
  | false => h.IsList a its
theorem drawsM {prog : Program} {w : World} {A : Around} (k : Bool) (hh : A.handled = none) (it a : Addr) (ne : a ≠ it) (its : Array Value) : Draws prog w A it [it, a] its.size (fun i v => its[i]? = some v) (fun i h => ItM k h it a i ∧ IsM k h a its) := by
  cases k with
  | true => exact Draws.tuple hh it a ne its
  | false => exact Draws.list hh it a ne its
theorem seqM {X : Cx} {pins : List (Addr × Obj)} {σ : L2.St} {H : Hp} {s : Shared} {a : Addr} {xs : List V} {k : Bool} (I : Inv X pins σ H s) (h : SqM X.K k H a xs) : ∃ its : List Value, Vals xs its ∧ IsM k s.heap a its.toArray ∧ xs.length ≤ sizeLine := by
  cases k with
  | true =>
    obtain ⟨its, rv, p, z⟩ := I.tuple h
    exact ⟨its, rv, p, z⟩
  | false =>
    obtain ⟨its, rv, p, z⟩ := I.list h
    exact ⟨its, rv, p.isList, z⟩
theorem injM {X : Cx} {pins : List (Addr × Obj)} {σ : L2.St} {H : Hp} {s : Shared} {a : Addr} {xs ys : List V} {k : Bool} (I : Inv X pins σ H s) (h : SqM X.K k H a xs) (h' : SqM X.K k H a ys) : xs = ys := by
  cases k with
  | true => exact I.tuple_inj h h'
  | false => exact I.list_inj h h'
theorem ItM.obj {k : Bool} {h : Heap} {it a : Addr} {i : Nat} (x : ItM k h it a i) : ∃ o, h.get? it = some o ∧ ∀ v, o.data ≠ .cell v := by
  cases k with
  | true =>
    obtain ⟨o, e, _, d⟩ := x
    exact ⟨o, e, fun v q => by rw [d] at q; cases q⟩
  | false =>
    obtain ⟨o, e, _, d⟩ := x
    exact ⟨o, e, fun v q => by rw [d] at q; cases q⟩
theorem ItM.keep {k : Bool} {h h' : Heap} {it a : Addr} {i : Nat} (x : ItM k h it a i) (kk : ∀ o, h.get? it = some o → h'.get? it = some o) : ItM k h' it a i := by
  cases k with
  | true => exact Heap.IsTupleIter.at x kk
  | false => exact Heap.IsListIter.at x kk
def ItzM (K : PySem.W.Frag) (k k' : Bool) (a b : Addr) : It :=
  ⟨fun i H => ∃ (xs ys : List V) (x y : V), SqM K k H a xs ∧ SqM K k' H b ys ∧ xs[i]? = some x ∧ ys[i]? = some y,
    fun i H v H' => ∃ T x y, v = .ref T ∧ H T = none ∧ H' = upd H T (.tup [x, y]) ∧ (∀ xs, SqM K k H a xs → xs[i]? = some x) ∧ ∀ ys, SqM K k' H b ys → ys[i]? = some y,
    fun i H => ∃ xs ys : List V, SqM K k H a xs ∧ SqM K k' H b ys ∧ i ≤ xs.length ∧ i ≤ ys.length ∧ (i = xs.length ∨ i = ys.length)⟩
theorem turn_zipM {P : Program} {w : World} {K : PySem.W.Frag} {elts : List Expr} {kk : Nat} {tpos : Pos} {k k' : Bool} {a b zz ti tq j1 j2 : Addr} (D : ZipSep2 zz ti tq j1 j2 [j1, a] [j2, b]) (na : a ≠ j1) (nb : b ≠ j2) :
    Turn P w K (.Tuple elts kk tpos) (ItzM K k k' a b) [zz, ti, tq, j1, j2] zz (fun i h => IsZip h zz ti tq .none ∧ IsTupOf2 h ti (.ref j1) (.ref j2) ∧ (∃ x y, IsTupOf2 h tq x y) ∧ ItM k h j1 a i ∧ ItM k' h j2 b i) where
  mem := by simp
  obj := fun i h st c hc => by
    obtain ⟨g1, g2, ⟨x, y, g3⟩, g4, g5⟩ := st
    have hc : c = zz ∨ c = ti ∨ c = tq ∨ c = j1 ∨ c = j2 := by simpa using hc
    rcases hc with rfl | rfl | rfl | rfl | rfl
    · exact ⟨_, g1, fun v q => nomatch q⟩
    · exact ⟨_, g2, fun v q => nomatch q⟩
    · exact ⟨_, g3, fun v q => nomatch q⟩
    · exact g4.obj
    · exact g5.obj
  keep := fun i h h' st kp => by
    obtain ⟨g1, g2, ⟨x, y, g3⟩, g4, g5⟩ := st
    exact ⟨kp zz (by simp) _ g1, kp ti (by simp) _ g2, ⟨x, y, kp tq (by simp) _ g3⟩, g4.keep fun o q => kp j1 (by simp) o q, g5.keep fun o q => kp j2 (by simp) o q⟩
  item := by
    intro X hP hw hK hc i pins s σ H E I hf st hg
    subst hP hw hK
    obtain ⟨g1, g2, ⟨x0, y0, g3⟩, g4, g5⟩ := st
    obtain ⟨xs, ys, x, y, qa, qb, hx, hy⟩ := hg
    obtain ⟨its, rv, p, _⟩ := seqM I qa
    obtain ⟨jts, rw', p2, _⟩ := seqM I qb
    obtain ⟨u, hu, ru⟩ := rv.get hx
    obtain ⟨u2, hu2, ru2⟩ := rw'.get hy
    have li : i < its.toArray.size := by simpa using (List.getElem?_eq_some_iff.mp hu).1
    have lj : i < jts.toArray.size := by simpa using (List.getElem?_eq_some_iff.mp hu2).1
    have hzl : zz < s.heap.objs.size := Heap.lt_size g1
    have hh := I.ok.hd hc
    refine wpAny_pyNext_zipD2_item D (drawsM k (A := X.A.in1) hh j1 a na its.toArray) (drawsM k' (A := X.A.in1) hh j2 b nb jts.toArray) g1 g2 g3 ⟨g4, p⟩ ⟨g5, p2⟩ li lj fun v1 v2 h' tk e1 e2 z' tq' c1 c2 hT hsz hkp => ?_
    have w1 : v1 = u := by
      have e1 : its[i]? = some v1 := by simpa using e1
      rw [hu] at e1
      exact (Option.some.inj e1).symm
    have w2 : v2 = u2 := by
      have e2 : jts[i]? = some v2 := by simpa using e2
      rw [hu2] at e2
      exact (Option.some.inj e2).symm
    subst w1 w2
    refine ⟨_, rfl, wpAny_letOwnedTupleGo_zip (s := { s with heap := h', toks := tk }) z' fun h2 z2 sb => ?_⟩
    have hT2 : h2.get? s.heap.objs.size = some { cls := .type "tuple", data := .seq #[v1, v2] } := (sb.2 _ (Nat.ne_of_gt hzl)).trans hT
    have fr := I.hok.fresh (Nat.le_refl s.heap.objs.size)
    have new : ObjOk X.prog X.w (upd H s.heap.objs.size (.tup [x, y])) h2 s.heap.objs.size (.tup [x, y]) :=
      ⟨(by show 2 ≤ sizeLine; rw [sizeLine_eq]; decide), [v1, v2], .cons ru (.cons ru2 .nil), ⟨_, hT2, rfl, _, rfl⟩⟩
    have I1 : Inv X pins σ (upd H s.heap.objs.size (.tup [x, y])) { s with heap := h2, toks := tk } :=
      I.turnedNew (t' := tk) (ch := [zz, ti, tq, j1, j2]) (fun c o hb q => by
        have hb : c ≠ zz ∧ c ≠ ti ∧ c ≠ tq ∧ c ≠ j1 ∧ c ≠ j2 := by simpa using hb
        exact (sb.2 c hb.1).trans (hkp c o hb.1 hb.2.2.1 hb.2.2.2.1 hb.2.2.2.2 q)) hf (Nat.le_refl _) new
    refine ⟨.ref s.heap.objs.size, _, I1, rfl, ⟨_, x, y, rfl, fr, rfl, fun l hl => by rw [injM I hl qa]; exact hx, fun l hl => by rw [injM I hl qb]; exact hy⟩, ⟨z2, ?_, ⟨v1, v2, ?_⟩, ?_, ?_⟩, fun c hcm => ?_⟩
    · exact (sb.2 _ D.TIz).trans (hkp _ _ D.TIz D.TITO D.TIi1 D.TIi2 g2)
    · exact (sb.2 _ D.TOz).trans tq'
    · exact c1.1.keep fun o q => (sb.2 _ (Ne.symm D.zi1)).trans q
    · exact c2.1.keep fun o q => (sb.2 _ (Ne.symm D.zi2)).trans q
    · have hlt : c ≠ s.heap.objs.size := by
        have hcm : c = zz ∨ c = ti ∨ c = tq ∨ c = j1 ∨ c = j2 := by simpa using hcm
        rcases hcm with q | q | q | q | q
        · rw [q]; exact Nat.ne_of_lt hzl
        · rw [q]; exact Nat.ne_of_lt (Heap.lt_size g2)
        · rw [q]; exact Nat.ne_of_lt (Heap.lt_size g3)
        · rw [q]
          obtain ⟨_, e1, _⟩ := g4.obj
          exact Nat.ne_of_lt (Heap.lt_size e1)
        · rw [q]
          obtain ⟨_, e2, _⟩ := g5.obj
          exact Nat.ne_of_lt (Heap.lt_size e2)
      rw [upd_ne hlt]
      exact (hf c hcm).1
  done := by
    intro X hP hw hK hc i pins s σ H E I hf st hg
    subst hP hw hK
    obtain ⟨g1, g2, ⟨x0, y0, g3⟩, g4, g5⟩ := st
    obtain ⟨xs, ys, qa, qb, l1, l2, le⟩ := hg
    obtain ⟨its, rv, p, _⟩ := seqM I qa
    obtain ⟨jts, rw', p2, _⟩ := seqM I qb
    have m1 := rv.length
    have m2 := rw'.length
    have hh := I.ok.hd hc
    refine wpAny_pyNext_zipD2_end D (drawsM k (A := X.A.in1) hh j1 a na its.toArray) (drawsM k' (A := X.A.in1) hh j2 b nb jts.toArray) g1 g2 g3 ⟨g4, p⟩ ⟨g5, p2⟩ (by simp; omega) (by simp; omega) (by simp; omega) fun h' tk hkp => ⟨rfl, I.turnedL (t' := tk) (ch := [zz, ti, tq, j1, j2]) (fun c o hb q => ?_) hf⟩
    have hb : c ≠ zz ∧ c ≠ ti ∧ c ≠ tq ∧ c ≠ j1 ∧ c ≠ j2 := by simpa using hb
    exact hkp c o hb.1 hb.2.2.1 hb.2.2.2.1 hb.2.2.2.2 q
  self := fun A i s Q E st h => wpAny_pyIter_zip st.1 h
def iZipM (K : PySem.W.Frag) (ta : TA) : TI := fun σ H R => ta σ H fun vs H1 => ∃ (a b : Addr) (xs ys : List V) (k k' : Bool), vs = [.ref a, .ref b] ∧ SqM K k H1 a xs ∧ SqM K k' H1 b ys ∧ R (ItzM K k k' a b) H1
theorem srcM {prog : Program} {w : World} {k : Bool} {a : Addr} {items : Array Value} {h : Heap} (x : IsM k h a items) : ∃ o Hh, Src prog w a items h o Hh (fun it i h => ItM k h it a i ∧ IsM k h a items) := by
  cases k with
  | true =>
    exact ⟨_, _, begins_tuple a items, x, let ⟨_, e, _⟩ := x; Heap.lt_size e, fun A it hh ne => Draws.tuple hh it a ne items,
      fun it h' e k => ⟨⟨_, e, rfl, rfl⟩, Heap.IsTuple.at x fun u e => k a u e⟩, fun it h' st b hb => by
        obtain ⟨⟨o1, e1, _⟩, ⟨o2, e2, _⟩⟩ := st
        have hb : b = it ∨ b = a := by simpa using hb
        rcases hb with rfl | rfl
        · exact ⟨_, e1⟩
        · exact ⟨_, e2⟩⟩
  | false =>
    exact ⟨_, _, begins_list a items, x, let ⟨_, e, _⟩ := x; Heap.lt_size e, fun A it hh ne => Draws.list hh it a ne items,
      fun it h' e k => ⟨⟨_, e, rfl, rfl⟩, Heap.IsList.at x fun u e => k a u e⟩, fun it h' st b hb => by
        obtain ⟨⟨o1, e1, _⟩, ⟨o2, e2, _⟩⟩ := st
        have hb : b = it ∨ b = a := by simpa using hb
        rcases hb with rfl | rfl
        · exact ⟨_, e1⟩
        · exact ⟨_, e2⟩⟩
theorem pi_zipM {X : Cx} {e e2 : Expr} {ta : TA} {p pos tpos : Pos} {elts : List Expr} {kk : Nat} (hg : Gl X "zip") (hm : X.mg "zip" = none) (ha : PA X [e, e2] ta)
    (hs : starEach [e, e2] X.env = (false, eval e X.env) :: starEach [e2] X.env) (hpl : (backTo pos (starEach [e2] X.env)).any (·.1) = false) :
    PI X (.Tuple elts kk tpos) (.Call (.Name "zip" p) [e, e2] [] pos) (iZipM X.K ta) := by
  refine ⟨fun pins s σ H R I h => ?_⟩
  refine Call_ (ld_blt I hg hm PyProof.Rows.boot_zip (PyProof.Rows.callWith_type1 (thn (ha.run pos pins s σ H _ I h) fun us s1 ⟨vs, H1, I1, r1, q1⟩ => ?_) hs hpl))
  obtain ⟨a, b, xs, ys, k, k', ex, qa, qb, q⟩ := q1
  subst ex
  cases r1 with
  | cons r rr =>
    cases rr with
    | cons r2 rr =>
      cases rr
      cases r
      cases r2
      obtain ⟨its, rv, p1, _⟩ := seqM I1 qa
      obtain ⟨jts, rw', p2, _⟩ := seqM I1 qb
      obtain ⟨o1, G1, X1⟩ := srcM (prog := X.prog) (w := X.w) p1
      obtain ⟨o2, G2, X2⟩ := srcM (prog := X.prog) (w := X.w) p2
      refine zip_begins2 X1.begins X2.begins X1.now X2.now fun h' kz kI kO k1 k2 sz kp => wpAny_pyIter_zip kz ?_
      have la := X1.lt
      have lb := X2.lt
      have I2 : Inv X pins σ H1 { s1 with heap := h' } := I1.kept (t' := s1.toks) kp
      refine ⟨s1.heap.objs.size + 4, [s1.heap.objs.size + 4, s1.heap.objs.size + 2, s1.heap.objs.size + 3, s1.heap.objs.size, s1.heap.objs.size + 1], _, _, H1, rfl, I2, turn_zipM (zip_sep2 (fp1 := [a]) (fp2 := [b]) (fun c hc => by rw [List.mem_singleton.mp hc]; exact la) (fun c hc => by rw [List.mem_singleton.mp hc]; exact lb)) (Nat.ne_of_lt la) (Nat.ne_of_lt (Nat.lt_succ_of_lt lb)), ⟨kz, kI, ⟨_, _, kO⟩, (X1.start _ h' k1 kp).1, (X2.start _ h' k2 kp).1⟩, fun c hcm => ?_, q⟩
      have hle : s1.heap.objs.size ≤ c := by
        have hcm : c = s1.heap.objs.size + 4 ∨ c = s1.heap.objs.size + 2 ∨ c = s1.heap.objs.size + 3 ∨ c = s1.heap.objs.size ∨ c = s1.heap.objs.size + 1 := by simpa using hcm
        rcases hcm with h | h | h | h | h <;> rw [h] <;> first | exact Nat.le_add_right _ _ | exact Nat.le_refl _
      exact I1.fpOk hle (I1.hok.fresh hle)
def mZipM (ms : M (List Vl)) : M (List D) := bd ms fun rs => bd (frzs rs) fun ds => match ds with
  | [x, y] => match seqD x, seqD y with
    | some a, some b => rt (zipD a b)
    | _, _ => fun _ => none
  | _ => fun _ => none
section
variable {K : PySem.W.Frag} {A : Anc}
theorem SqM.same {k : Bool} {H H' : Hp} {a : Addr} {xs : List V} (s : Same H H') (h : SqM K k H a xs) : SqM K k H' a xs := by
  cases k with
  | true => exact sameT s h
  | false => exact sameL s h
theorem wd_zipM {B0 : Hp} {k k' : Bool} {a b : Addr} {xs ys : List V} {ds es : List D} (h : SqM K k B0 a xs) (h' : SqM K k' B0 b ys) (r : Rps K B0 ds xs) (r' : Rps K B0 es ys) : WD K (ItzM K k k' a b) B0 (zipD ds es) := by
  have hl := r.length
  have hl' := r'.length
  have hz : (zipD ds es).length = min xs.length ys.length := by
    unfold zipD
    rw [List.length_zipWith, hl, hl']
  refine ⟨fun i H B hi s1 s2 => ?_, fun H B s1 s2 => ?_, fun i H B x H' hi s1 s2 y => ?_⟩
  · rw [hz] at hi
    have h1 : i < xs.length := by omega
    have h2 : i < ys.length := by omega
    exact ⟨xs, ys, xs[i], ys[i], (h.same s1).same s2, (h'.same s1).same s2, List.getElem?_eq_getElem h1, List.getElem?_eq_getElem h2⟩
  · exact ⟨xs, ys, (h.same s1).same s2, (h'.same s1).same s2, by rw [hz]; omega, by rw [hz]; omega, by rw [hz]; omega⟩
  · obtain ⟨T, u, v, rfl, nT, rfl, f1, f2⟩ := y
    have e1 := f1 _ ((h.same s1).same s2)
    have e2 := f2 _ ((h'.same s1).same s2)
    obtain ⟨d, g1, r1⟩ := r.getV e1
    obtain ⟨e, g2, r2⟩ := r'.getV e2
    refine ⟨.tup [d, e], by rw [zipD_get, g1, g2], .inr (.inl ⟨T, [u, v], [d, e], rfl, nT, rfl, rfl, .cons (r1.mono s1) (.cons (r2.mono s1) .nil)⟩)⟩
theorem Rp.seqM {B : Hp} {d : D} {v : V} {ds : List D} (h : Rp K B d v) (e : seqD d = some ds) : ∃ a xs k, v = .ref a ∧ SqM K k B a xs ∧ Rps K B ds xs := by
  cases h with
  | tup h r =>
    cases e
    exact ⟨_, _, true, rfl, h.sq, r⟩
  | lst h r =>
    cases e
    exact ⟨_, _, false, rfl, .of h, r⟩
  | _ => cases e
theorem si_zipM {t : TA} {ms : M (List Vl)} (h : SAX K A t ms) : SIX K A (iZipM K t) (mZipM ms) := fun σ τ B H env pe env' ds R S hl e q => by
  obtain ⟨rs, e1, h1, f1⟩ := bd_inv e
  obtain ⟨es, e2, h2, f2⟩ := bd_inv f1
  refine h σ τ B H env pe e1 rs _ S hl h1 fun B1 H1 vs s1 hl1 S1 hr => ?_
  obtain ⟨B2, s2, S2, hl2, rr⟩ := frzs_ok S1 hl1 hr h2
  match es, f2, rr with
  | [x, y], f2, rr =>
    have f2 : (match seqD x, seqD y with | some a, some b => rt (zipD a b) | _, _ => fun _ => none) e2 = some (ds, env') := f2
    cases ha : seqD x with
    | none =>
      rw [ha] at f2
      cases f2
    | some a =>
      cases hb : seqD y with
      | none =>
        rw [ha, hb] at f2
        cases f2
      | some b =>
        rw [ha, hb] at f2
        cases f2
        obtain ⟨u, v, rfl, r1, r2⟩ := rps2 rr
        obtain ⟨p, xs, k, rfl, q1, w1⟩ := Rp.seqM r1 ha
        obtain ⟨p', ys, k', rfl, q2, w2⟩ := Rp.seqM r2 hb
        exact ⟨p, p', xs, ys, k, k', rfl, q1.same S2.same, q2.same S2.same, q B2 H1 _ (s1.trans s2) hl2 S2 (wd_zipM q1 q2 w1 w2)⟩
  | [], f2, _ => cases f2
  | [_], f2, _ => cases f2
  | _ :: _ :: _ :: _, f2, _ => cases f2
end
section
variable {g : G0} {c : Ct} {a b : Expr} {ms : M (List Vl)} {p pos tpos : Pos} {elts : List Expr} {kk : Nat}
theorem ei_zipM (hg : GlC c "zip") (hm : g.mg "zip" = none) (h : EA g c [a, b] ms) (pl : Pl a) (pl2 : Pl b) : EI g c (.Tuple elts kk tpos) (.Call (.Name "zip" p) [a, b] [] pos) (mZipM ms) := by
  obtain ⟨t, h1, h2⟩ := h
  exact ⟨iZipM g.K t, fun X hX => by
    rw [← hX.eK]
    exact pi_zipM (gl_of hX hg) (by rw [hX.em]; exact hm) (h1 X hX) (pl [b] X.env) (by rw [pl2 [] X.env]; rfl), fun A => si_zipM (h2 A)⟩
end
def zipMO : List D → Option (List D)
  | [x, y] => match seqD x, seqD y with
    | some a, some b => some (zipD a b)
    | _, _ => none
  | _ => none
theorem W_mZipM {e : Env} {ms : M (List Vl)} {Q : List D → Env → Prop} : @W _ (mZipM ms) e ⟨Q⟩ = @W _ ms e ⟨fun rs e1 => @W _ (frzs rs) e1 ⟨fun ds e2 => @WO _ (zipMO ds) ⟨fun l => Q l e2⟩⟩⟩ := by
  unfold mZipM
  simp only [W_eq, WO_eq, bd]
  cases ms e with
  | none => rfl
  | some p =>
    dsimp only
    cases frzs p.1 p.2 with
    | none => rfl
    | some w =>
      dsimp only
      unfold zipMO
      match w.1 with
      | [] => rfl
      | [_] => rfl
      | [x, y] =>
        dsimp only
        cases seqD x with
        | none => rfl
        | some a =>
          cases seqD y with
          | none => rfl
          | some b => rfl
      | _ :: _ :: _ :: _ => rfl
theorem zipMO_lt (a b : List D) : zipMO [.lst a, .tup b] = some (zipD a b) := rfl
theorem zipMO_tl (a b : List D) : zipMO [.tup a, .lst b] = some (zipD a b) := rfl
theorem zipMO_ll (a b : List D) : zipMO [.lst a, .lst b] = some (zipD a b) := rfl
end PD
namespace PD
variable [PD.TabL]
open PySem PySem.Spec PyProof.Rows L2
mutual
def D.sz : D → Nat
  | .tup ds => szs ds + 1
  | .lst ds => szs ds + 1
  | _ => 1
def szs : List D → Nat
  | [] => 0
  | d :: ds => d.sz + szs ds
end
mutual
def D.pl : D → Bool
  | .non => true
  | .bl _ => true
  | .int _ => true
  | .str _ => true
  | .tup ds => pls ds
  | .lst ds => pls ds
  | _ => false
def pls : List D → Bool
  | [] => true
  | d :: ds => d.pl && pls ds
end
theorem zip_self (ds : List D) : zipD ds ds = ds.map fun d => .tup [d, d] := by
  unfold zipD
  induction ds with
  | nil => rfl
  | cons d r ih => rw [List.zipWith_cons_cons, ih, List.map_cons]
theorem si1 (ds : List D) : isiD [.lst ds, .tup [.ty "list", .ty "tuple"]] = some (.im (.bl true)) := rfl
theorem si2 (ds : List D) : isiD [.tup ds, .tup [.ty "list", .ty "tuple"]] = some (.im (.bl true)) := rfl
theorem si3 (x : Str) : isiD [.str x, .tup [.ty "list", .ty "tuple"]] = some (.im (.bl false)) := rfl
theorem si4 (i : Int) : isiD [.int i, .tup [.ty "list", .ty "tuple"]] = some (.im (.bl false)) := rfl
theorem si5 (ds : List D) : isiD [.lst ds, .ty "list"] = some (.im (.bl true)) := rfl
theorem si6 (ds : List D) : isiD [.lst ds, .ty "tuple"] = some (.im (.bl false)) := rfl
theorem si7 (ds : List D) : isiD [.tup ds, .ty "list"] = some (.im (.bl false)) := rfl
theorem si8 (ds : List D) : isiD [.tup ds, .ty "tuple"] = some (.im (.bl true)) := rfl
theorem si9 (x : Str) : isiD [.str x, .ty "str"] = some (.im (.bl true)) := rfl
theorem si10 (i : Int) : isiD [.int i, .ty "str"] = some (.im (.bl false)) := rfl
theorem si11 (i : Int) : isiD [.int i, .ty "bool"] = some (.im (.bl false)) := rfl
theorem si12 (i : Int) : isiD [.int i, .ty "int"] = some (.im (.bl true)) := rfl
theorem si16 (x : Str) : isiD [.str x, .ty "bool"] = some (.im (.bl false)) := rfl
theorem sn1 (x : Str) : isD [.str x, .non] = some (.im (.bl false)) := rfl
theorem sn2 (x : Int) : isD [.int x, .non] = some (.im (.bl false)) := rfl
theorem Rw.pl (r : Rw) : r.d.pl = true := rfl
theorem Rw.sz (r : Rw) : r.d.sz = 8 := rfl
end PD
namespace PD
variable [PD.TabL]
open PySem PySem.Spec PyProof.Rows L2
theorem Rw_to4 (r : Rw) : slD none (some 4) r.d = some (.im (.tup [.int r.ra, .int r.le, .int r.ca, .int r.rn])) := rfl
theorem Rw_from4 (r : Rw) : slD (some 4) none r.d = some (.im (.tup [.int r.so, .int r.dr, .int r.st])) := rfl
end PD
namespace PD
variable [PD.TabL]
open PySem PySem.Spec PyProof.Rows L2
/-- a slot that holds nothing that may change -/
def Cm (s : Sl) : Prop := s = .em ∨ ∃ d, s = .im d
theorem Cm.em : Cm .em := .inl rfl
theorem Cm.im {d : D} : Cm (.im d) := .inr ⟨d, rfl⟩
theorem Cm.frz {s : Sl} (h : Cm s) : Sl.frz s = s := by
  rcases h with rfl | ⟨d, rfl⟩ <;> rfl
theorem Cm.calm {s : Sl} (h : Cm s) : calmS (some s) = true := by
  rcases h with rfl | ⟨d, rfl⟩ <;> rfl
end PD
namespace PD
variable [PD.TabL]
open PySem PySem.Spec PyProof.Rows L2
structure WetN (n n' : Dn) : Prop where
  ra : n.ra ≤ n'.ra
  su : n'.su ≤ n.su
  into : ∀ x, n.into x ≤ n'.into x
  bs : n'.bs = n.bs
theorem WetN.refl (n : Dn) : WetN n n := ⟨Int.le_refl _, Int.le_refl _, fun _ => Int.le_refl _, rfl⟩
theorem WetN.trans {a b c : Dn} (h : WetN a b) (h' : WetN b c) : WetN a c := ⟨Int.le_trans h.ra h'.ra, Int.le_trans h'.su h.su, fun x => Int.le_trans (h.into x) (h'.into x), h'.bs.trans h.bs⟩
/-- stands, place by place -/
structure StLe (st st' : List Int) : Prop where
  len : st'.length = st.length
  le : ∀ (i : Nat) (w w' : Int), st[i]? = some w → st'[i]? = some w' → w ≤ w'
theorem StLe.refl (st : List Int) : StLe st st := ⟨rfl, fun i w w' h h' => by rw [h] at h'; cases h'; exact Int.le_refl _⟩
theorem StLe.trans {a b c : List Int} (h : StLe a b) (h' : StLe b c) : StLe a c := ⟨h'.len.trans h.len, fun i w w' h1 h2 => by
  obtain ⟨v, hv, _⟩ := at_of (l := b) (i := i) (by rw [h.len]; exact (List.getElem?_eq_some_iff.mp h1).1)
  exact Int.le_trans (h.le i w v h1 hv) (h'.le i v w' hv h2)⟩
end PD
namespace PD
variable [PD.TabL]
open PySem PySem.Spec PyProof.Rows L2
end PD
namespace PD
variable [PD.TabL]
open PySem PySem.Spec PyProof.Rows L2
structure Brk (f : Fld) (lv : Int) (n0 n1 : Dn) : Prop where
  ra : n1.ra = n0.ra
  su : n1.su = n0.su
  ls : n1.ls = n0.ls
  l0 : n0.lvl f = f.dy
  l1 : n1.lvl f = lv
  same : ∀ g : Fld, g.nm ≠ f.nm → n1.lvl g = n0.lvl g
end PD
namespace PD
variable [PD.TabL]
open PySem PySem.Spec PyProof.Rows L2
end PD
namespace PD
variable [PD.TabL]
open PySem PySem.Spec PyProof.Rows L2
end PD
namespace PD
variable [PD.TabL]
open PySem PySem.Spec PyProof.Rows L2
end PD
namespace PD
variable [PD.TabL]
open PySem PySem.Spec PyProof.Rows L2
end PD
namespace PD
variable [PD.TabL]
open PySem PySem.Spec PyProof.Rows L2
structure Lvs (f : Fld) (c : Int) (n0 n1 : Dn) : Prop where
  ra : n1.ra = n0.ra
  su : n1.su = n0.su
  ls : n1.ls = n0.ls
  lf : n0.lvl f = n1.lvl f + c
  lo : ∀ g : Fld, g.nm ≠ f.nm → n1.lvl g = n0.lvl g
end PD
namespace PD
variable [PD.TabL]
open PySem PySem.Spec PyProof.Rows L2
def qN : M (List (Key × D)) := rt []
def qJ : Vl → Vl → List (Key × D) → M (List (Key × D))
  | .im dk, .im dv, es => match keyD dk with
    | some k => rt ((k, dv) :: es)
    | none => fun _ => none
  | _, _, _ => fun _ => none
def qA (mk mv : M Vl) (ms : M (List (Key × D))) : M (List (Key × D)) := bd mk fun rk => bd mv fun rv => bd ms fun es => qJ rk rv es
def eDisp (ms : M (List (Key × D))) : M Vl := bd ms fun es => if decide (es.length ≤ 15) = true then rt (.fr (.dk (mergeD [] es))) else fun _ => none
section
variable (K : PySem.W.Frag) (A : Anc)
end
section
variable {K : PySem.W.Frag} {A : Anc}
end
section
variable (g : G0) (c : Ct)
end
section
variable {g : G0} {c : Ct} {pos : Pos}
end
section
variable {e : Env}
theorem W_qN {Q : List (Key × D) → Env → Prop} : @W _ qN e ⟨Q⟩ = Q [] e := W_eq
theorem W_eDisp {ms : M (List (Key × D))} {Q : Vl → Env → Prop} : @W _ (eDisp ms) e ⟨Q⟩ = @W _ ms e ⟨fun es e1 => @WC (decide (es.length ≤ 15)) ⟨Q (.fr (.dk (mergeD [] es))) e1⟩⟩ := by
  unfold eDisp
  simp only [W_eq, bd]
  cases ms e with
  | none => rfl
  | some p =>
    dsimp only
    by_cases h : p.1.length ≤ 15
    · simp [WC_true, h, rt]
    · simp [WC, h]
theorem W_qA {mk mv : M Vl} {ms : M (List (Key × D))} {Q : List (Key × D) → Env → Prop} : @W _ (qA mk mv ms) e ⟨Q⟩ = @W _ mk e ⟨fun rk e1 => @W _ mv e1 ⟨fun rv e2 => @W _ ms e2 ⟨fun es e3 => @W _ (qJ rk rv es) e3 ⟨Q⟩⟩⟩⟩ := by
  unfold qA
  simp only [W_eq, bd]
  cases mk e with
  | none => rfl
  | some p =>
    dsimp only
    cases mv p.2 with
    | none => rfl
    | some q =>
      dsimp only
      cases ms q.2 <;> rfl
theorem W_qJs {x : Str} {d : D} {es : List (Key × D)} {Q : List (Key × D) → Env → Prop} : @W _ (qJ (.im (.str x)) (.im d) es) e ⟨Q⟩ = Q ((.inr x, d) :: es) e := W_eq
theorem W_qJi {i : Int} {d : D} {es : List (Key × D)} {Q : List (Key × D) → Env → Prop} : @W _ (qJ (.im (.int i)) (.im d) es) e ⟨Q⟩ = Q ((.inl i, d) :: es) e := W_eq
end
end PD
namespace PD
variable [PD.TabL]
open PySem PySem.Spec PyProof.Rows L2
section
variable {prog : Program} {w : World} {A : Around} {E : Value → Shared → Prop} {s : Shared} {l : Addr} {o : Obj} {its : Array Value} {n : Nat}
theorem wp_items {Q : Array Value → Shared → Prop} (ho : s.heap.get? l = some o) (hd : o.data = .seq its n) (q : Q its s) : wpAny (model prog w) A (Builtin.Tuple.tupleItemsOf (.ref l)) Q E s := by
  unfold Builtin.Tuple.tupleItemsOf
  refine wpAny_bind ?_
  show wpAny (model prog w) A (load l >>= fun x => match x.data with | .seq xs _ => pure (some xs) | _ => pure none) _ E s
  refine wpAny_bind (wpAny_load ho ?_)
  rw [hd]
  exact wpAny_pure (wpAny_pure q)
theorem wp_exact {Q : Bool → Shared → Prop} (ho : s.heap.get? l = some o) (hc : o.cls = .type "tuple") (q : Q true s) : wpAny (model prog w) A (Builtin.Tuple.tupleIsExact (.ref l)) Q E s := by
  unfold Builtin.Tuple.tupleIsExact
  refine wpAny_bind (wpAny_typeOf (T := "tuple") ⟨o, ho, hc⟩ ?_)
  refine wpAny_pure ?_
  have : (Value.type "tuple" == Value.type "tuple") = true := by decide +kernel
  rw [this]
  exact q
theorem meets1 (l : Addr) (u : Tok) (o : Obj) (its : Array Value) (n : Nat) (hc : o.cls = .type "tuple") (hd : o.data = .seq its n) : Meets (Builtin.«tuple.__mul__» { pos := [.ref l, .int 1 u] }) fun _ R s => s.heap.get? l = some o ∧ R (Except.ok (Flow.ret (.ref l))) s := by
  intro prog w A R s ⟨ho, hr⟩
  have e : ∃ jp : Array Value → Sem PySem.Fin, Builtin.«tuple.__mul__» { pos := [Value.ref l, Value.int 1 u] } = (Builtin.Tuple.tupleItemsOf (.ref l) >>= fun xs => if (xs.isEmpty || (1 : Int) == 1) = true then (Builtin.Tuple.tupleIsExact (.ref l) >>= fun b => if b = true then (rule "tuple.repeat.same-object" >>= fun _ => PySem.ret (.ref l)) else jp xs) else jp xs) := ⟨_, rfl⟩
  obtain ⟨jp, e⟩ := e
  rw [e]
  refine wpAny_bind (wp_items ho hd ?_)
  rw [if_pos (by simp)]
  refine wpAny_bind (wp_exact ho hc ?_)
  rw [if_pos rfl]
  refine wpAny_bind (wpAny_rule ?_)
  exact wpAny_pure hr
theorem meets0 (l : Addr) (u : Tok) (o : Obj) (its : Array Value) (n : Nat) (hc : o.cls = .type "tuple") (hd : o.data = .seq its n) : Meets (Builtin.«tuple.__mul__» { pos := [.ref l, .int 0 u] }) fun _ R s => s.heap.get? l = some o ∧ (its.isEmpty = true → R (Except.ok (Flow.ret (.ref l))) s) ∧ (its.isEmpty = false → R (Except.ok (Flow.ret (.ref s.heap.objs.size))) { s with heap := s.heap.push { cls := .type "tuple", data := .seq #[] } }) := by
  intro prog w A R s ⟨ho, hr1, hr0⟩
  have e : ∃ jp : Array Value → Sem PySem.Fin, Builtin.«tuple.__mul__» { pos := [Value.ref l, Value.int 0 u] } = (Builtin.Tuple.tupleItemsOf (.ref l) >>= fun xs => if (xs.isEmpty || (0 : Int) == 1) = true then (Builtin.Tuple.tupleIsExact (.ref l) >>= fun b => if b = true then (rule "tuple.repeat.same-object" >>= fun _ => PySem.ret (.ref l)) else (if (decide ((0 : Int) ≤ 0) || xs.isEmpty) = true then (Builtin.Tuple.tupleExact #[] >>= fun v => PySem.ret v) else jp xs)) else (if (decide ((0 : Int) ≤ 0) || xs.isEmpty) = true then (Builtin.Tuple.tupleExact #[] >>= fun v => PySem.ret v) else jp xs)) := ⟨_, rfl⟩
  obtain ⟨jp, e⟩ := e
  rw [e]
  refine wpAny_bind (wp_items ho hd ?_)
  cases hi : its.isEmpty with
  | true =>
    rw [if_pos (by simp)]
    refine wpAny_bind (wp_exact ho hc ?_)
    rw [if_pos rfl]
    refine wpAny_bind (wpAny_rule ?_)
    exact wpAny_pure (hr1 hi)
  | false =>
    rw [if_neg (by decide), if_pos (by simp)]
    have en : Builtin.Tuple.tupleExact #[] = (alloc { cls := .type "tuple", data := .seq #[] } >>= fun a => pure (Value.ref a)) := rfl
    rw [en]
    refine wpAny_bind (wpAny_bind (wpAny_alloc (wpAny_pure ?_)))
    exact wpAny_pure (hr0 hi)
theorem obj_eta (hc : o.cls = .type "tuple") (hd : o.data = .seq its n) : o = { cls := .type "tuple", dict := o.dict, data := .seq its n, slots := o.slots } := by
  cases o
  simp only at hc hd
  subst hc hd
  rfl
theorem tmul1 {t : Tok} {Q : Value → Shared → Prop} (ho : s.heap.get? l = some o) (hc : o.cls = .type "tuple") (hd : o.data = .seq its n) (q : Q (.ref l) s) : wpAny (model prog w) A (binaryOp .Mult (.ref l) (.int 1 t)) Q E s := by
  have ht : s.TypeIs (.ref l) "tuple" := ⟨o, ho, hc⟩
  refine wpAny_binaryOp_repeat_ref (T := "tuple") (U := "int") (id := "tuple.__mul__") (idr := "int.__rmul__") (by decide +kernel) ht (fun s' => typeIs_int s' 1 t) noFill_tuple_mul fills_int_mul F.slot_int_rmul repeat_tuple F.slot_int_index.lookup ?_
  refine call_meets F.slot_int_rmul (typeIs_int s 1 t) F.entry_int_rmul (F.args_int_rmul_2 _ _) (int_rmul_tuple 1 t l its n o.dict o.slots) ⟨by rw [ho]; exact congrArg some (obj_eta hc hd), ?_⟩
  refine ⟨rfl, ht, ?_⟩
  exact call_meets F.slot_tuple_mul ht F.entry_tuple_mul (F.args_tuple_mul_2 _ _) (meets1 l t o its n hc hd) ⟨ho, q⟩
theorem tmul0 {t : Tok} {Q : Value → Shared → Prop} (ho : s.heap.get? l = some o) (hc : o.cls = .type "tuple") (hd : o.data = .seq its n) (q1 : its.isEmpty = true → Q (.ref l) s) (q0 : its.isEmpty = false → Q (.ref s.heap.objs.size) { s with heap := s.heap.push { cls := .type "tuple", data := .seq #[] } }) : wpAny (model prog w) A (binaryOp .Mult (.ref l) (.int 0 t)) Q E s := by
  have ht : s.TypeIs (.ref l) "tuple" := ⟨o, ho, hc⟩
  refine wpAny_binaryOp_repeat_ref (T := "tuple") (U := "int") (id := "tuple.__mul__") (idr := "int.__rmul__") (by decide +kernel) ht (fun s' => typeIs_int s' 0 t) noFill_tuple_mul fills_int_mul F.slot_int_rmul repeat_tuple F.slot_int_index.lookup ?_
  refine call_meets F.slot_int_rmul (typeIs_int s 0 t) F.entry_int_rmul (F.args_int_rmul_2 _ _) (int_rmul_tuple 0 t l its n o.dict o.slots) ⟨by rw [ho]; exact congrArg some (obj_eta hc hd), ?_⟩
  refine ⟨rfl, ht, ?_⟩
  exact call_meets F.slot_tuple_mul ht F.entry_tuple_mul (F.args_tuple_mul_2 _ _) (meets0 l t o its n hc hd) ⟨ho, q1, q0⟩
end
def rMulT : R2 := fun x y H Q => ∃ l xs, x = .ref l ∧ H l = some (.tup xs) ∧ ((y = .int 1 ∧ Q (.ref l) H) ∨ (y = .int 0 ∧ (xs = [] → Q (.ref l) H) ∧ (xs ≠ [] → ∀ p, H p = none → Q (.ref p) (upd H p (.tup [])))))
def rMulB : R2 := fun x y H Q => ∃ l o xs, x = .ref l ∧ H l = some (.frz o (.tup xs)) ∧ ((y = .int 1 ∧ Q (.ref l) H) ∨ (y = .int 0 ∧ (xs = [] → Q (.ref l) H) ∧ (xs ≠ [] → ∀ (p : Addr) (o : Obj), H p = none → o.dict = none → Q (.ref p) (upd H p (.frz o (.tup []))))))
theorem op_mulT {X : Cx} : OpR X (binaryOp .Mult) rMulT := by
  intro pins s σ H x y v u Q I rx ry h
  obtain ⟨l, xs, rfl, hl, h⟩ := h
  have rx : v = Value.ref l := rx
  subst rx
  obtain ⟨hz, its, rv, o, ho, hc, n, hd⟩ := (show ObjOk X.prog X.w H s.heap l (.tup xs) from I.hok l _ hl)
  have hlen := rv.length
  rcases h with ⟨rfl, q⟩ | ⟨rfl, q1, q0⟩
  · obtain ⟨t, rfl⟩ := ry
    exact tmul1 ho hc hd ⟨.ref l, H, I, rfl, q⟩
  · obtain ⟨t, rfl⟩ := ry
    refine tmul0 ho hc hd (fun e => ⟨.ref l, H, I, rfl, q1 ?_⟩) (fun e => ⟨.ref s.heap.objs.size, _, I.laid (t' := s.toks) (o := .tup []) (fun b o e => Heap.get?_push_of_some _ e) (Nat.le_refl _) ⟨by simp [sizeLine], [], .nil, IsTup.new _ _⟩, rfl, q0 ?_ _ (I.hok.fresh (Nat.le_refl _))⟩)
    · cases its with
      | nil => cases rv; rfl
      | cons a b => simp at e
    · rintro rfl
      cases rv
      simp at e
theorem op_mulB {X : Cx} : OpR X (binaryOp .Mult) rMulB := by
  intro pins s σ H x y v u Q I rx ry h
  obtain ⟨l, o, xs, rfl, hl, h⟩ := h
  have rx : v = Value.ref l := rx
  subst rx
  obtain ⟨ho, hz, its, rv, o', ho', hc, n, hd⟩ := (show ObjOk X.prog X.w H s.heap l (.frz o (.tup xs)) from I.hok l _ hl)
  rcases h with ⟨rfl, q⟩ | ⟨rfl, q1, q0⟩
  · obtain ⟨t, rfl⟩ := ry
    exact tmul1 ho' hc hd ⟨.ref l, H, I, rfl, q⟩
  · obtain ⟨t, rfl⟩ := ry
    have new : (s.heap.push { cls := .type "tuple", data := .seq #[] }).get? s.heap.objs.size = some { cls := .type "tuple", data := .seq #[] } := Heap.get?_push_size _ rfl
    refine tmul0 ho' hc hd (fun e => ⟨.ref l, H, I, rfl, q1 ?_⟩) (fun e => ⟨.ref s.heap.objs.size, _, I.laid (t' := s.toks) (o := .frz { cls := .type "tuple", data := .seq #[] } (.tup [])) (fun b o e => Heap.get?_push_of_some _ e) (Nat.le_refl _) ⟨new, by simp [sizeLine], [], .nil, IsTup.new _ _⟩, rfl, q0 ?_ _ _ (I.hok.fresh (Nat.le_refl _)) rfl⟩)
    · cases its with
      | nil => cases rv; rfl
      | cons a b => simp at e
    · rintro rfl
      cases rv
      simp at e
def mulTD : List D → Option Vl
  | [.tup xs, .int k] => if k = 1 then some (.im (.tup xs)) else if k = 0 then some (.im (.tup [])) else none
  | [.tp xs, .int k] => if k = 1 then some (.im (.tp xs)) else if k = 0 then some (.im (.tp [])) else none
  | _ => none
theorem op_mulTD {g : G0} : OpI g (binaryOp .Mult) mulTD := by
  refine ⟨fun x y H Q => rMulT x y H Q ∨ rMulB x y H Q, fun c X hX => op_mulT.or op_mulB, fun A B H vs env xs ds res Q S rr e q => ?_⟩
  unfold mulTD at e
  split at e
  · rename_i ys k
    obtain ⟨x, y, rfl, r1, r2⟩ := pr2 rr
    obtain ⟨a, us, rfl, ha, ta, ra⟩ := r1.tup S.same
    refine .inl ⟨a, us, rfl, ha, ?_⟩
    split at e
    · rename_i hk
      cases e
      subst hk
      exact .inl ⟨r2.int, q B H _ (Same.refl _) ⟨S, .tup ta ra⟩⟩
    · split at e
      · rename_i hk
        cases e
        subst hk
        refine .inr ⟨r2.int, fun hu => ?_, fun hu p hp => ?_⟩
        · subst hu
          cases ra
          exact q B H _ (Same.refl _) ⟨S, .tup ta .nil⟩
        · obtain ⟨S3, s3⟩ := S.laidF (o := .tup []) hp
          exact q _ _ _ s3 ⟨S3, .tup upd_same .nil⟩
      · cases e
  · rename_i ys k
    obtain ⟨x, y, rfl, r1, r2⟩ := pr2 rr
    obtain ⟨a, o, us, rfl, ha, hdn, ra⟩ := r1.tp S.same
    refine .inr ⟨a, o, us, rfl, ha, ?_⟩
    have rr1 : Rp g.K B (.tp ys) (.ref a) := by
      cases r1 with
      | fz r => exact r
      | ct c =>
        generalize H a = z at c
        cases c
    split at e
    · rename_i hk
      cases e
      subst hk
      exact .inl ⟨r2.int, q B H _ (Same.refl _) ⟨S, rr1⟩⟩
    · split at e
      · rename_i hk
        cases e
        subst hk
        refine .inr ⟨r2.int, fun hu => ?_, fun hu p o hp hd => ?_⟩
        · subst hu
          cases ra
          exact q B H _ (Same.refl _) ⟨S, rr1⟩
        · obtain ⟨S3, s3⟩ := S.laidF (o := .frz o (.tup [])) hp
          exact q _ _ _ s3 ⟨S3, .tp upd_same hd .nil⟩
      · cases e
  · cases e
end PD
namespace PD
variable [PD.TabL]
open PySem PySem.Spec PyProof.Rows L2
def strOf : Value → Str
  | .str x _ => x
  | _ => Str.empty
structure SetS (P : Program) (w : World) (h : Heap) (a : Addr) (L : List Str) : Prop where
  ex : ∃ o es ep t, h.get? a = some o ∧ o.ExactSet ∧ o.data = Data.set es ep t ∧ ElemsOf (strKind P w) es.toList ∧ (es.toList.map fun e => strOf e.2).Perm L ∧ es.size < scanBound ∧ t.fits es.size = true ∧ Ris t.place.toList ∧ (w.params.followText "set-order" = true ∨ t.led = true)
  nd : L.Nodup
end PD
namespace PD
variable [PD.TabL]
open PySem PySem.Spec PyProof.Rows L2
end PD
namespace PD
variable [PD.TabL]
open PySem PySem.Spec PyProof.Rows L2
end PD
namespace PD
variable [PD.TabL]
open PySem PySem.Spec PyProof.Rows L2
end PD
namespace PD
variable [PD.TabL]
open PySem PySem.Spec PyProof.Rows L2
section
variable {X : Cx}
end
end PD
namespace PD
variable [PD.TabL]
open PySem PySem.Spec PyProof.Rows L2
def sb (x : Str) : V × PyData := (V.str x, PyData.str x)
section
variable {X : Cx}
end
end PD
namespace PD
variable [PD.TabL]
open PySem PySem.Spec PyProof.Rows L2
theorem toks_str {x y : Str} (h : PySem.W.keyToks (D.str x).py = PySem.W.keyToks (D.str y).py) : x = y := by
  simp only [D.py, PySem.W.keyToks, List.cons.injEq, Sum.inr.injEq, Sum.inl.injEq, and_true] at h
  obtain ⟨x⟩ := x
  obtain ⟨y⟩ := y
  have : x = y := Array.ext' h
  rw [this]
section
variable {K : PySem.W.Frag} {A : Anc} {vs : L2.St} {env : Env}
end
section
variable {g : G0} {c : Ct} {o : Expr} {m : M Vl} {p p2 pos pos2 : Pos}
end
end PD
namespace PD
variable [PD.TabL]
open PySem PySem.Spec PyProof.Rows L2
theorem depAll_le {n : Nat} : ∀ {ds : List D}, (∀ d ∈ ds, d.py.depth ≤ n) → PyData.depthAll (pys ds) ≤ n
  | [], _ => Nat.zero_le _
  | d :: ds, h => by
    have h1 := h d (List.mem_cons_self ..)
    have h2 := depAll_le (ds := ds) fun x hx => h x (List.mem_cons_of_mem _ hx)
    show max d.py.depth (PyData.depthAll (pys ds)) ≤ n
    omega
theorem inB_lst (d : D) (ds : List D) : inB [d, .lst ds] = if (d.isPy && arePy ds && depB 64 d && depsB 63 ds) = true then some (ds.any fun z => eqB z d) else none := by cases d <;> rfl
theorem inB_has {t u : Ty} {d : D} {ds : List D} (hd : Has t d) (hs : ∀ x ∈ ds, Has u x) (h1 : t.dep ≤ 64) (h2 : u.dep ≤ 63) : inB [d, .lst ds] = some (ds.any fun z => eqB z d) := by
  rw [inB_lst, if_pos]
  have a1 := hd.py
  have a2 : arePy ds = true := by
    rw [arePy_all]
    exact List.all_eq_true.mpr fun x hx => (hs x hx).py.1
  have a3 : depB 64 d = true := decide_eq_true (by omega)
  have a4 : depsB 63 ds = true := decide_eq_true (depAll_le fun x hx => Nat.le_trans (hs x hx).py.2.2 h2)
  rw [a1.1, a2, a3, a4]
  rfl
end PD
namespace PD
variable [PD.TabL]
open PySem PySem.Spec PyProof.Rows L2
def splitD : List D → Option Vl
  | [.str a, .str b] => if (!(b.length == 0) && decide (a.length + 2 ≤ sizeLine) && (Txt.split a b).all PyData.strOk) = true then some (.fr (.lst ((Txt.split a b).map D.str))) else none
  | _ => none
theorem rps_okS {K : PySem.W.Frag} {B : Hp} : ∀ {ss : List Str}, (∀ x ∈ ss, PyData.strOk x = true) → Rps K B (ss.map D.str) (ss.map V.str)
  | [], _ => .nil
  | x :: ss, h => .cons (.str x (h x (List.mem_cons_self ..))) (rps_okS fun y hy => h y (List.mem_cons_of_mem _ hy))
theorem me_split {g : G0} : MeI g "str" "split" "str.split" splitD := ⟨F.plainAttrs_str, F.slot_str_split, F.type_str_split, _, fun c X hX => mt_split, fun A B H vs env xs ds res Q S rr e q => by
  unfold splitD at e
  split at e
  · rename_i x y
    split at e
    · rename_i h
      cases e
      simp only [Bool.and_eq_true] at h
      obtain ⟨⟨h1, h2⟩, h3⟩ := h
      obtain ⟨a, b, rfl, r1, r2⟩ := pr2 rr
      have e1 := r1.str.1
      have e2 := r2.str.1
      subst e1 e2
      exact ⟨x, y, rfl, rfl, by simpa using h1, of_decide_eq_true h2, fun p hp => q B _ _ (Same.refl _) (.lst S hp (rps_okS fun z hz => List.all_eq_true.mp h3 z hz))⟩
    · cases e
  · cases e⟩
end PD
namespace PD
variable [PD.TabL]
open PySem PySem.Spec PyProof.Rows L2
end PD
namespace PD
variable [PD.TabL]
open PySem PySem.Spec PyProof.Rows L2
section
variable {K : PySem.W.Frag} {A : Anc} {B H : Hp} {σ : L2.St} {env : Env}
end
def mDk (m : M Vl) : M (List D) := fun e => match m e with
  | some (.bo i, e1) => match e1[i]? with
    | some (.ow (.dk es)) => if (es.all fun x => keyOk x.1) = true then some (es.map fun x => kD x.1, e1.set i (.im (.kf es))) else none
    | some (.ow (.dt es)) => if (es.all fun x => x.1.all keyOk) = true then some (es.map fun x => ktD x.1, e1.set i (.im (.tf es))) else none
    | some (.im (.kf es)) => if (es.all fun x => keyOk x.1) = true then some (es.map fun x => kD x.1, e1) else none
    | some (.im (.tf es)) => if (es.all fun x => x.1.all keyOk) = true then some (es.map fun x => ktD x.1, e1) else none
    | _ => none
  | some (.im (.kf es), e1) => if (es.all fun x => keyOk x.1) = true then some (es.map fun x => kD x.1, e1) else none
  | some (.im (.tf es), e1) => if (es.all fun x => x.1.all keyOk) = true then some (es.map fun x => ktD x.1, e1) else none
  | _ => none
theorem W_mDk {e : Env} {m : M Vl} {Q : List D → Env → Prop} : @W _ (mDk m) e ⟨Q⟩ = @W _ m e ⟨fun r e1 => match r with
    | .bo i => @WO _ e1[i]? ⟨fun sl => match sl with
      | .ow (.dk es) => @WC (es.all fun x => keyOk x.1) ⟨@WO _ (setO e1 i (.im (.kf es))) ⟨fun e2 => Q (es.map fun x => kD x.1) e2⟩⟩
      | .ow (.dt es) => @WC (es.all fun x => x.1.all keyOk) ⟨@WO _ (setO e1 i (.im (.tf es))) ⟨fun e2 => Q (es.map fun x => ktD x.1) e2⟩⟩
      | .im (.kf es) => @WC (es.all fun x => keyOk x.1) ⟨Q (es.map fun x => kD x.1) e1⟩
      | .im (.tf es) => @WC (es.all fun x => x.1.all keyOk) ⟨Q (es.map fun x => ktD x.1) e1⟩
      | _ => False⟩
    | .im (.kf es) => @WC (es.all fun x => keyOk x.1) ⟨Q (es.map fun x => kD x.1) e1⟩
    | .im (.tf es) => @WC (es.all fun x => x.1.all keyOk) ⟨Q (es.map fun x => ktD x.1) e1⟩
    | _ => False⟩ := by
  have sO : ∀ {l : Env} {i : Nat} {sl x : Sl}, l[i]? = some sl → setO l i x = some (l.set i x) := fun {l i sl x} h => by
    rw [← setO_ok, if_pos (List.getElem?_eq_some_iff.mp h).1]
  unfold mDk
  simp only [W_eq]
  cases m e with
  | none => rfl
  | some p =>
    obtain ⟨r, e1⟩ := p
    cases r with
    | fr d => rfl
    | im d =>
      cases d <;> try rfl
      · rename_i es
        dsimp only
        generalize List.all _ _ = c
        cases c <;> simp [WC]
      · rename_i es
        dsimp only
        generalize List.all _ _ = c
        cases c <;> simp [WC]
    | bo i =>
      dsimp only
      rw [WO_eq]
      cases hs : e1[i]? with
      | none => rfl
      | some sl =>
        cases sl with
        | em => rfl
        | io j d => rfl
        | bk _ _ => rfl
        | im d =>
          cases d <;> try rfl
          · dsimp only
            generalize List.all _ _ = c
            cases c <;> simp [WC]
          · dsimp only
            generalize List.all _ _ = c
            cases c <;> simp [WC]
        | ow d =>
          cases d <;> try rfl
          · dsimp only
            rw [sO hs, WO_some]
            generalize List.all _ _ = c
            cases c <;> simp [WC]
          · dsimp only
            rw [sO hs, WO_some]
            generalize List.all _ _ = c
            cases c <;> simp [WC]
end PD
namespace PD
variable [PD.TabL]
open PySem PySem.Spec PyProof.Rows L2
theorem nodup_subA {α : Type} [DecidableEq α] : ∀ {a b : List α}, a.Nodup → (∀ x ∈ a, x ∈ b) → a.length ≤ b.length
  | [], _, _, _ => Nat.zero_le _
  | x :: a, b, nd, h => by
    obtain ⟨h1, h2⟩ := List.nodup_cons.mp nd
    have hx := h x (List.mem_cons_self ..)
    have := nodup_subA (a := a) (b := b.erase x) h2 fun y hy => by
      have hne : y ≠ x := fun z => h1 (z ▸ hy)
      exact (List.mem_erase_of_ne hne).mpr (h y (List.mem_cons_of_mem _ hy))
    rw [List.length_erase_of_mem hx] at this
    have hp := List.length_pos_of_mem hx
    rw [List.length_cons]
    omega
def stem5 (x : Str) : Str := cutS x none (some 5)
def cand (x : Str) : List Str := x :: LT.map fun c => stem5 x ++ ⟨#[c]⟩
theorem cand_d (x : Str) : (cand x).map D.str = .str x :: LT.map fun c => .str (stem5 x ++ ⟨#[c]⟩) := by
  rw [cand, List.map_cons, List.map_map]
  rfl
theorem app_one_inj {s : Str} {c d : Nat} (h : s ++ (⟨#[c]⟩ : Str) = s ++ ⟨#[d]⟩) : c = d := by
  have h2 : (s ++ (⟨#[c]⟩ : Str)).cps.toList = (s ++ (⟨#[d]⟩ : Str)).cps.toList := by rw [h]
  have cl : ∀ x y : Str, (x ++ y).cps.toList = x.cps.toList ++ y.cps.toList := fun x y => Array.toList_append ..
  rw [cl, cl] at h2
  have h3 := List.append_cancel_left h2
  simpa using h3
theorem cand_free {found : List Str} (x : Str) (h : found.length < 26) : ∃ y r, (cand x).filter (fun y => !decide (y ∈ found)) = y :: r ∧ y ∈ cand x ∧ y ∉ found := by
  cases hf : (cand x).filter (fun y => !decide (y ∈ found)) with
  | nil =>
    exfalso
    have hall : ∀ y ∈ LT.map (fun c => stem5 x ++ (⟨#[c]⟩ : Str)), y ∈ found := fun y hy => by
      have := List.filter_eq_nil_iff.mp hf y (List.mem_cons_of_mem _ hy)
      simpa using this
    have nd : (LT.map (fun c => stem5 x ++ (⟨#[c]⟩ : Str))).Nodup := by
      have : ∀ l : List Nat, l.Nodup → (l.map (fun c => stem5 x ++ (⟨#[c]⟩ : Str))).Nodup := fun l => by
        induction l with
        | nil => exact fun _ => List.nodup_nil
        | cons c l ih =>
          intro hn
          obtain ⟨h1, h2⟩ := List.nodup_cons.mp hn
          rw [List.map_cons]
          refine List.nodup_cons.mpr ⟨fun hm => ?_, ih h2⟩
          obtain ⟨d, hd, e⟩ := List.mem_map.mp hm
          exact h1 (app_one_inj e ▸ hd)
      exact this LT LT_nodup
    have := nodup_subA nd hall
    rw [List.length_map, LT_len] at this
    omega
  | cons y r =>
    have hy : y ∈ (cand x).filter (fun y => !decide (y ∈ found)) := by rw [hf]; exact List.mem_cons_self ..
    obtain ⟨h1, h2⟩ := List.mem_filter.mp hy
    exact ⟨y, r, rfl, h1, by simpa using h2⟩
end PD
namespace PD
variable [PD.TabL]
open PySem PySem.Spec PyProof.Rows L2
structure Ln where
  d : Int
  g : Str
  a : Str
  b : Str
end PD
namespace PD
variable [PD.TabL]
open PySem PySem.Spec PyProof.Rows L2
def tk (d : Int) (g : Str) : List Key := [.inl d, .inr g]
section
variable {κ : Type} [DecidableEq κ]
end
structure HeldC (gs : List Gt) (f : Gt → Int → Str) (cov : Gt → Int → Prop) (es : List (List Key × D)) : Prop where
  get : ∀ g ∈ gs, ∀ d : Int, cov g d → getK es (tk d g.nm) = some (.str (f g d))
  key : ∀ k ∈ es.map (·.1), ∃ g ∈ gs, ∃ d : Int, 0 ≤ d ∧ d < 40 ∧ cov g d ∧ k = tk d g.nm
  nd : (es.map (·.1)).Nodup
theorem HeldC.len {gs : List Gt} {f : Gt → Int → Str} {cov : Gt → Int → Prop} {es : List (List Key × D)} (h : HeldC gs f cov es) : es.length ≤ gs.length * 40 := by
  have := nodup_subA (b := (gs.map fun g => (List.range 40).map fun i : Nat => tk (i : Int) g.nm).flatten) h.nd fun k hk => by
    obtain ⟨g, hg, d, d0, d1, _, rfl⟩ := h.key k hk
    exact List.mem_flatten.mpr ⟨_, List.mem_map.mpr ⟨g, hg, rfl⟩, List.mem_map.mpr ⟨d.toNat, List.mem_range.mpr (by omega), by rw [Int.toNat_of_nonneg d0]⟩⟩
  rw [List.length_map] at this
  refine Nat.le_trans this ?_
  have e : ∀ l : List Gt, ((l.map fun g => (List.range 40).map fun i : Nat => tk (i : Int) g.nm).flatten).length = l.length * 40 := fun l => by
    induction l with
    | nil => rfl
    | cons g l ih => rw [List.map_cons, List.flatten_cons, List.length_append, ih, List.length_map, List.length_range, List.length_cons]; omega
  rw [e]
  exact Nat.le_refl _
theorem HeldC.nil {gs : List Gt} {f : Gt → Int → Str} : HeldC gs f (fun _ _ => False) [] := ⟨fun _ _ _ h => h.elim, fun _ h => by simp at h, List.nodup_nil⟩
/-- loans of a terrace among people -/
structure LnOk (gs : List Gt) (pp : List Str) (l : Ln) : Prop where
  d0 : 0 ≤ l.d
  d1 : l.d < 40
  g : ∃ g ∈ gs, g.nm = l.g
  a : l.a ∈ pp
  b : l.b ∈ pp
end PD
namespace PD
variable [PD.TabL]
open PySem PySem.Spec PyProof.Rows L2
def eUC (T : String) (f : D → List D → Option (D × D)) (m : M Vl) (ms : M (List Vl)) : M Vl := bd m fun r => match r with
  | .bo i => bd (ckT T (.bo i)) fun _ => bd ms fun rs e => match cnts e rs with
    | some ds => match mutAtD e i with
      | some d0 => match f d0 ds with
        | some (d', x) => some (.im x, putC e i d')
        | none => none
      | none => none
    | none => none
  | _ => fun _ => none
section
variable {g : G0} {c : Ct} {o e : Expr} {m : M Vl} {ms : M (List Vl)} {pos apos : Pos}
end
theorem W_eUC {T : String} {f : D → List D → Option (D × D)} {m : M Vl} {ms : M (List Vl)} {e : Env} {Q : Vl → Env → Prop} : @W _ (eUC T f m ms) e ⟨Q⟩ =
    @W _ m e ⟨fun r e0 => match r with
      | .bo i => @W _ (ckT T (.bo i)) e0 ⟨fun _ e1 => @W _ ms e1 ⟨fun rs e2 => @WO _ (cnts e2 rs) ⟨fun ds => @WO _ (mutAtD e2 i) ⟨fun d0 => @WO _ (f d0 ds) ⟨fun p => @WO _ (putO e2 i p.1) ⟨fun e4 => Q (.im p.2) e4⟩⟩⟩⟩⟩⟩
      | .im _ => False
      | .fr _ => False⟩ := by
  unfold eUC
  simp only [W_eq, WO_eq, bd]
  cases m e with
  | none => rfl
  | some p =>
    obtain ⟨r, e0⟩ := p
    cases r with
    | im d => rfl
    | fr d => rfl
    | bo i =>
      simp only [bd]
      cases ckT T (.bo i) e0 with
      | none => rfl
      | some q =>
        dsimp only
        cases ms q.2 with
        | none => rfl
        | some w =>
          dsimp only
          cases cnts w.2 w.1 with
          | none => rfl
          | some z =>
            dsimp only
            cases mutAtD w.2 i with
            | none => rfl
            | some d0 =>
              dsimp only
              cases f d0 z with
              | none => rfl
              | some x => rfl
theorem eqD_nilL {t : Ty} {ds : List D} (h : ∀ d ∈ ds, Has t d) (hd : t.dep ≤ 50) : eqD [.lst ds, .lst []] = some (.im (.bl ds.isEmpty)) := by
  rw [eqD_py (by simpa [D.isPy] using (hasAll_py h).1) rfl (depB_lst h hd), eqB_nil]
def sl (x y : Str) : Prop := x.cps.toList < y.cps.toList
instance (x y : Str) : Decidable (sl x y) := inferInstanceAs (Decidable (_ < _))
theorem sortL_uniq {ds m : List D} (p : m.Perm ds) (pw : m.Pairwise fun a b => PySem.W.dataLe false D.py a b = true) (inj : ∀ a ∈ m, ∀ b ∈ m, PySem.W.keyToks a.py = PySem.W.keyToks b.py → a = b) : sortL ds = m :=
  (List.Perm.eq_of_pairwise (fun x y hx hy h1 h2 => inj x hx y (p.mem_iff.mpr (sortL_mem.mp hy)) (dataLe_anti h1 h2)) pw (sortL_pw ds) (p.trans (sortL_perm ds).symm)).symm
def kp : List Key → Int × Str
  | [.inl d, .inr x] => (d, x)
  | _ => (0, noS)
end PD
namespace PD
variable [PD.TabL]
open PySem PySem.Spec PyProof.Rows L2
theorem stem5_as {n : Nat} {x : Str} (h : As n x) : As 5 (stem5 x) := by
  refine ⟨?_, (h.cut none (some 5)).2⟩
  show (((x.cps.toList.drop (HT.sIx x.length 0 none)).take (HT.sIx x.length x.length (some 5) - HT.sIx x.length 0 none)).toArray).size ≤ 5
  have h5 : HT.sIx x.length x.length (some 5) ≤ 5 := by
    have := HT.sIx_nat x.length x.length 5
    have e : HT.sIx x.length x.length (some 5) = min 5 x.length := this
    omega
  simp
  omega
/-- a name: one to six small letters -/
structure NmL (x : Str) : Prop where
  l0 : 1 ≤ x.length
  l1 : x.length ≤ 6
  lt : ∀ c ∈ x.cps.toList, c ∈ LT
theorem NmL.as {x : Str} (h : NmL x) : As 6 x := ⟨h.l1, fun c hc => LT_low c (h.lt c hc)⟩
theorem NmL.of {cs : List Nat} (h0 : 1 ≤ cs.length) (h1 : cs.length ≤ 6) (h : ∀ c ∈ cs, c ∈ LT) : NmL ⟨cs.toArray⟩ := ⟨by show 1 ≤ cs.toArray.size; simpa using h0, by show cs.toArray.size ≤ 6; simpa using h1, fun c hc => h c (by simpa using hc)⟩
theorem stem5_nm {x : Str} {c : Nat} (h : NmL x) (hc : c ∈ LT) : NmL (stem5 x ++ ⟨#[c]⟩) := by
  have h5 := stem5_as h.as
  have e1 : (⟨#[c]⟩ : Str).length = 1 := rfl
  refine ⟨by rw [len_app, e1]; omega, by rw [len_app, e1]; have := h5.1; omega, fun d hd => ?_⟩
  have hd : d ∈ ((stem5 x).cps ++ #[c]).toList := hd
  rw [Array.toList_append, List.mem_append] at hd
  rcases hd with hd | hd
  · have hd : d ∈ (x.cps.toList.drop (HT.sIx x.length 0 none)).take (HT.sIx x.length x.length (some 5) - HT.sIx x.length 0 none) := by simpa [stem5, cutS] using hd
    exact h.lt d (List.mem_of_mem_drop (List.mem_of_mem_take hd))
  · have : d = c := by simpa using hd
    rw [this]
    exact hc
theorem cand_nm {x : Str} (h : NmL x) : ∀ y ∈ cand x, NmL y := fun y hy => by
  rcases List.mem_cons.mp hy with rfl | hy
  · exact h
  · obtain ⟨c, hc, rfl⟩ := List.mem_map.mp hy
    exact stem5_nm h hc
end PD
namespace PD
variable [PD.TabL]
open PySem PySem.Spec PyProof.Rows L2
def eTmpL (m : M Vl) : M Vl := fun e => match m (e.map Sl.frz) with
  | some (.fr (.lst ys), _) => if ys.all D.atom = true then some (.fr (.lst ys), e) else none
  | _ => none
section
variable {K : PySem.W.Frag}
end
theorem W_eTmpL {e : Env} {m : M Vl} {Q : Vl → Env → Prop} : @W _ (eTmpL m) e ⟨Q⟩ = @WO _ (some (e.map Sl.frz)) ⟨fun e0 => @W _ m e0 ⟨fun r _ => match r with | .fr (.lst ys) => @WC (ys.all D.atom) ⟨Q (.fr (.lst ys)) e⟩ | _ => False⟩⟩ := by
  rw [WO_some, W_eq, W_eq]
  unfold eTmpL
  cases m (e.map Sl.frz) with
  | none => rfl
  | some p =>
    obtain ⟨r, e1⟩ := p
    cases r with
    | im d => rfl
    | bo i => rfl
    | fr d =>
      cases d <;> try rfl
      rename_i ys
      dsimp only
      unfold WC
      cases ys.all D.atom <;> simp
end PD
namespace PD
variable [PD.TabL]
open PySem PySem.Spec PyProof.Rows L2
def rngS (lo c : Int) (n : Nat) : List D := (List.range n).map fun i : Nat => D.int (lo + (i : Int) * c)
def rgcB (i j c : Int) : Bool := decide (c ≠ 0) && decide (c.natAbs < 1073741824) && Builtin.Range.small i j c && decide (Builtin.Range.rangeSize i j c = ((Builtin.Range.rangeSize i j c).toNat : Int))
def rg3 : List D → Option (List D)
  | [.int i, .int j, .int c] => if rgcB i j c = true then some (rngS i c (Builtin.Range.rangeSize i j c).toNat) else none
  | _ => none
def mR3 (ms : M (List Vl)) : M (List D) := bd ms fun rs e => match cnts e rs with
  | some ds => match rg3 ds with
    | some l => some (l, e)
    | none => none
  | none => none
theorem W_mR3 {ms : M (List Vl)} {Q : List D → Env → Prop} {e : Env} : @W _ (mR3 ms) e ⟨Q⟩ = @W _ ms e ⟨fun rs e' => @WO _ (cnts e' rs) ⟨fun ds => @WO _ (rg3 ds) ⟨fun l => Q l e'⟩⟩⟩ := by
  unfold mR3
  simp only [W_eq, WO_eq, bd]
  cases ms e with
  | none => rfl
  | some p =>
    dsimp only
    try rw [WO_eq]
    cases cnts p.2 p.1 with
    | none => rfl
    | some ds =>
      dsimp only
      try rw [WO_eq]
      cases rg3 ds <;> rfl
section
variable {g : G0} {c : Ct} {a b d : Expr} {ms : M (List Vl)} {p p2 pos pos2 : Pos} {tg : Expr}
end
section
variable {X : Cx} {e1 e2 : Expr} {ta : TA} {p p2 pos pos2 : Pos}
end
section
variable {g : G0} {c : Ct} {a b : Expr} {ms : M (List Vl)} {p p2 pos pos2 : Pos}
end
theorem rg3_10 : rg3 [.int 0, .int 40, .int 10] = some [.int 0, .int 10, .int 20, .int 30] := by
  have h : rgcB 0 40 10 = true := by decide +kernel
  unfold rg3
  dsimp only
  rw [if_pos h]
  have h2 : (Builtin.Range.rangeSize 0 40 10).toNat = 4 := by decide +kernel
  rw [h2]
  rfl
end PD
namespace PD
variable [PD.TabL]
open PySem PySem.Spec PyProof.Rows L2
end PD
namespace PD
variable [PD.TabL]
open PySem PySem.Spec PyProof.Rows L2
def revLD : D → Option D
  | .lst ds => some (.lst ds.reverse)
  | _ => none
def eRev (ma : M Vl) : M Vl := bd ma fun r e => match cnt e r.hold with
  | some d => match revLD d with
    | some d' => some (.fr d', e)
    | none => none
  | none => none
theorem W_eRev {ma : M Vl} {e : Env} {Q : Vl → Env → Prop} : @W _ (eRev ma) e ⟨Q⟩ = @W _ ma e ⟨fun r e1 => @WO _ (cnt e1 r.hold) ⟨fun d => @WO _ (revLD d) ⟨fun d' => Q (.fr d') e1⟩⟩⟩ := by
  unfold eRev
  simp only [W_eq, WO_eq, bd]
  cases ma e with
  | none => rfl
  | some p =>
    dsimp only
    try rw [WO_eq]
    cases cnt p.2 p.1.hold with
    | none => rfl
    | some d =>
      dsimp only
      try rw [WO_eq]
      cases revLD d <;> rfl
section
variable {g : G0} {c : Ct} {a : Expr} {k : Nat} {p1 p2 p3 pos : Pos} {ma : M Vl}
end
end PD
namespace PD
variable [PD.TabL]
open PySem PySem.Spec PyProof.Rows L2
section
variable {g : G0} {c : Ct} {pos : Pos} {mt : M Bool}
end
end PD
namespace PD
variable [PD.TabL]
open PySem PySem.Spec PyProof.Rows L2
def eFrz (m : M Vl) : M Vl := bd m fun r => bd (frz r.hold) fun d => rt (.im d)
section
variable {K : PySem.W.Frag} {A : Anc}
end
theorem W_eFrz {e : Env} {m : M Vl} {Q : Vl → Env → Prop} : @W _ (eFrz m) e ⟨Q⟩ = @W _ m e ⟨fun r e1 => @W _ (frz r.hold) e1 ⟨fun d e2 => Q (.im d) e2⟩⟩ := by
  unfold eFrz
  simp only [W_eq, bd]
  cases m e with
  | none => rfl
  | some p =>
    dsimp only
    try rw [W_eq]
    cases frz p.1.hold p.2 <;> rfl
end PD
namespace PD
variable [PD.TabL]
open PySem PySem.Spec PyProof.Rows L2
def eKf (m : M Vl) : M Vl := fun e => match m e with
  | some (.fr (.dk es), e1) => some (.im (.kf es), e1)
  | _ => none
section
variable {K : PySem.W.Frag} {A : Anc}
end
theorem W_eKf {e : Env} {m : M Vl} {Q : Vl → Env → Prop} : @W _ (eKf m) e ⟨Q⟩ = @W _ m e ⟨fun r e1 => match r with
    | .fr (.dk es) => Q (.im (.kf es)) e1
    | _ => False⟩ := by
  unfold eKf
  simp only [W_eq]
  cases m e with
  | none => rfl
  | some p =>
    obtain ⟨r, e1⟩ := p
    cases r with
    | fr d => cases d <;> rfl
    | im d => rfl
    | bo i => rfl
end PD
namespace PD
variable [PD.TabL]
open PySem PySem.Spec PyProof.Rows L2
section
variable {X : Cx}
end
section
variable {K : PySem.W.Frag} {A : Anc} {vs : L2.St} {env : Env}
end
section
variable {g : G0} {c : Ct} {o : Expr} {m : M Vl} {p p2 pos pos2 : Pos}
end
end PD
namespace PD
variable [PD.TabL]
open PySem PySem.Spec PyProof.Rows L2
def eLk (m : M Vl) : M Vl := fun e => match m e with
  | some (.bo i, e1) => match e1[i]? with
    | some (.ow (.dk es)) => some (.im (.kf es), e1.set i (.im (.kf es)))
    | _ => none
  | _ => none
section
variable {K : PySem.W.Frag} {A : Anc}
end
theorem W_eLk {e : Env} {m : M Vl} {Q : Vl → Env → Prop} : @W _ (eLk m) e ⟨Q⟩ = @W _ m e ⟨fun r e1 => match r with
    | .bo i => @WO _ e1[i]? ⟨fun sl => match sl with
      | .ow (.dk es) => @WO _ (setO e1 i (.im (.kf es))) ⟨fun e2 => Q (.im (.kf es)) e2⟩
      | _ => False⟩
    | _ => False⟩ := by
  have sO : ∀ {l : Env} {i : Nat} {sl x : Sl}, l[i]? = some sl → setO l i x = some (l.set i x) := fun {l i sl x} h => by
    rw [← setO_ok, if_pos (List.getElem?_eq_some_iff.mp h).1]
  unfold eLk
  simp only [W_eq]
  cases m e with
  | none => rfl
  | some p =>
    obtain ⟨r, e1⟩ := p
    cases r with
    | fr d => rfl
    | im d => rfl
    | bo i =>
      dsimp only
      cases h : e1[i]? with
      | none => simp [WO_none]
      | some sl =>
        have hs := fun x => sO (x := x) h
        cases sl with
        | ow d => cases d <;> simp [WO_some, hs]
        | _ => simp [WO_some]
end PD
namespace PD
variable [PD.TabL]
open PySem PySem.Spec PyProof.Rows L2
section
variable {X : Cx}
end
end PD
namespace HT
open PySem PySem.Spec PyProof.Rows
section
variable {prog : Program} {w : World} {A : Around} {E : Value → Shared → Prop} {s : Shared}
end
end HT
namespace PD
variable [PD.TabL]
open PySem PySem.Spec PyProof.Rows L2
section
variable {X : Cx}
end
def rev2D : D → Option D
  | .tup [d1, d2] => some (.tup [d2, d1])
  | _ => none
def eRev2 (ma : M Vl) : M Vl := bd ma fun r e => match cnt e r.hold with
  | some d => match rev2D d with
    | some d' => some (.im d', e)
    | none => none
  | none => none
theorem W_eRev2 {ma : M Vl} {e : Env} {Q : Vl → Env → Prop} : @W _ (eRev2 ma) e ⟨Q⟩ = @W _ ma e ⟨fun r e1 => @WO _ (cnt e1 r.hold) ⟨fun d => @WO _ (rev2D d) ⟨fun d' => Q (.im d') e1⟩⟩⟩ := by
  unfold eRev2
  simp only [W_eq, WO_eq, bd]
  cases ma e with
  | none => rfl
  | some p =>
    dsimp only
    try rw [WO_eq]
    cases cnt p.2 p.1.hold with
    | none => rfl
    | some d =>
      dsimp only
      try rw [WO_eq]
      cases rev2D d <;> rfl
section
variable {g : G0} {c : Ct} {a : Expr} {k : Nat} {p1 p2 p3 pos : Pos} {ma : M Vl}
end
end PD
namespace PD
variable [PD.TabL]
open PySem PySem.Spec PyProof.Rows L2

section
variable (K : PySem.W.Frag) (A : Anc)
def FPF (B : Hp) (E : Ends) (env' : Env) (V : List Nat) (σ0 : L2.St) : Fl → Prop
  | .nx => ∀ σ' B' H', Same B B' → L2.wipe σ' V = L2.wipe σ0 V → SR K A B' H' σ' env' → E.nx σ' H'
  | .bk => ∀ σ' B' H', Same B B' → L2.wipe σ' V = L2.wipe σ0 V → SR K A B' H' σ' env' → E.bk σ' H'
  | .ct => ∀ σ' B' H', Same B B' → L2.wipe σ' V = L2.wipe σ0 V → SR K A B' H' σ' env' → E.ct σ' H'
  | .rt r => ∀ σ' B' H' v, Same B B' → σ'.length = env'.length → VR K A B' H' σ' [] env' [] r v → E.rt v H'
end
section
variable {K : PySem.W.Frag} {A : Anc} {B H : Hp} {σ τ : L2.St} {env pe : Env} {V : List Nat}
theorem FPF.mono {B2 : Hp} {E : Ends} {env' : Env} {σ1 : L2.St} {fl : Fl} (s : Same B B2) (w : L2.wipe σ1 V = L2.wipe σ V) (h : FPF K A B E env' V σ fl) : FPF K A B2 E env' V σ1 fl := by
  cases fl with
  | nx => exact fun σ' B' H' s' w' => h σ' B' H' (s.trans s') (w'.trans w)
  | bk => exact fun σ' B' H' s' w' => h σ' B' H' (s.trans s') (w'.trans w)
  | ct => exact fun σ' B' H' s' w' => h σ' B' H' (s.trans s') (w'.trans w)
  | rt r => exact fun σ' B' H' v s' => h σ' B' H' v (s.trans s')
end

mutual
def LF : D → Bool
  | .non => true
  | .bl _ => true
  | .int _ => true
  | .str _ => true
  | .txt _ => true
  | .tup ds => LFs ds
  | _ => false
def LFs : List D → Bool
  | [] => true
  | d :: ds => LF d && LFs ds
end
mutual
/-- no thing is both -/
def apart : D → D → Bool
  | .lst ds, .lst es => aparts ds es
  | .tup ds, .tup es => aparts ds es
  | .lst _, .tup _ => true
  | .tup _, .lst _ => true
  | .int i, .int j => decide (i ≠ j)
  | .str x, .str y => decide (x ≠ y)
  | .int _, .str _ => true
  | .str _, .int _ => true
  | .int _, .tup _ => true
  | .tup _, .int _ => true
  | .str _, .tup _ => true
  | .tup _, .str _ => true
  | .int _, .lst _ => true
  | .lst _, .int _ => true
  | .str _, .lst _ => true
  | .lst _, .str _ => true
  | _, _ => false
def aparts : List D → List D → Bool
  | [], [] => false
  | [], _ :: _ => true
  | _ :: _, [] => true
  | d :: ds, e :: es => apart d e || aparts ds es
end
end PD
namespace PD
variable [PD.TabL]
open PySem PySem.Spec PyProof.Rows L2

section
variable {K : PySem.W.Frag} {A : Anc} {B H : Hp} {σ τ : L2.St} {env pe : Env}
def emp (n : Nat) : Env := List.replicate n .em
/-- all tuples are frozen -/
theorem SR.allTup (S : SR K A B H σ env) : ∃ B', Same B B' ∧ SR K A B' H σ env ∧ (∀ a ts, H a = some (HO.tup ts) → B' a = some (HO.tup ts)) ∧ ∀ a, B' a = B a ∨ ∃ ts, H a = some (HO.tup ts) := by
  classical
  let B' : Hp := fun a => match B a with
    | some o => some o
    | none => if ∃ ts, H a = some (HO.tup ts) then H a else none
  have hB : Same B B' := fun a o e => by
    show (match B a with | some o => some o | none => if ∃ ts, H a = some (HO.tup ts) then H a else none) = some o
    rw [e]
  have cases' : ∀ a, B' a = B a ∨ (B a = none ∧ (∃ ts, H a = some (HO.tup ts)) ∧ B' a = H a) := fun a => by
    cases hb : B a with
    | some u => exact .inl (hB a u hb)
    | none =>
      have e : B' a = if ∃ ts, H a = some (HO.tup ts) then H a else none := by
        show (match B a with | some o => some o | none => if ∃ ts, H a = some (HO.tup ts) then H a else none) = _
        rw [hb]
      rw [e]
      by_cases ht : ∃ ts, H a = some (HO.tup ts)
      · rw [if_pos ht]
        exact .inr ⟨rfl, ht, rfl⟩
      · rw [if_neg ht]
        exact .inl rfl
  refine ⟨B', hB, ⟨S.len, fun a o e => ?_, fun i sl ov e1 e2 => ?_, S.inj, fun a o e n => ?_, fun a n => ?_, S.ioh, fun q hq => ⟨(S.tab q hq).1, (by
    rcases cases' q.1 with z | ⟨_, ⟨ts, y⟩, _⟩
    · rw [z]
      exact (S.tab q hq).2.1
    · obtain ⟨⟨ps, e, _⟩, _⟩ := S.tab q hq
      rw [e] at y
      cases y), (S.tab q hq).2.2⟩⟩, fun a ts e => ?_, fun a => ?_⟩
  · rcases cases' a with z | ⟨_, _, z⟩
    · rw [z] at e
      exact S.same a o e
    · rw [z] at e
      exact e
  · refine (S.slot i sl ov e1 e2).grow hB (fun _ _ _ _ _ => rfl) fun p e m z => ?_
    rcases cases' p with y | ⟨_, ⟨ts, y⟩, _⟩
    · rw [y]
      exact z
    · obtain ⟨p', d, o, f1, _, f2, f3⟩ := (S.slot i sl ov e1 e2).held m
      rw [e] at f1
      cases f1
      rw [y] at f2
      cases f2
      exact absurd rfl (f3.nt ts)
  · obtain ⟨e1, e2⟩ := S.anc a o e n
    refine ⟨e1, ?_⟩
    rcases cases' a with z | ⟨_, ⟨ts, y⟩, _⟩
    · rw [z]
      exact e2
    · rw [e1] at y
      cases y
      exact .inr ⟨_, rfl⟩
  · obtain ⟨b, o, e, nt⟩ := S.iob a n
    refine ⟨?_, o, e, nt⟩
    rcases cases' a with z | ⟨_, ⟨ts, y⟩, _⟩
    · rw [z]
      exact b
    · rw [e] at y
      cases y
      exact absurd rfl (nt ts)
  · rcases cases' a with z | ⟨_, _, z⟩
    · cases hb : B a with
      | some u =>
        have := S.same a u hb
        rw [e] at this
        cases this
        rw [z, hb]
      | none =>
        show (match B a with | some o => some o | none => if ∃ ts, H a = some (HO.tup ts) then H a else none) = _
        rw [hb]
        show (if ∃ ts, H a = some (HO.tup ts) then H a else none) = _
        rw [if_pos ⟨ts, e⟩, e]
    · rw [z]
      exact e
  · rcases cases' a with z | ⟨_, z, _⟩
    · exact .inl z
    · exact .inr z
end

mutual
def LG : D → Bool
  | .non => true
  | .bl _ => true
  | .int _ => true
  | .str _ => true
  | .txt _ => true
  | .tup ds => LGs ds
  | .tp ds => LGs ds
  | .fe => true
  | _ => false
def LGs : List D → Bool
  | [] => true
  | d :: ds => LG d && LGs ds
end
mutual
theorem LG.of : ∀ {d : D}, LF d = true → LG d = true
  | .non, _ => rfl
  | .bl _, _ => rfl
  | .int _, _ => rfl
  | .str _, _ => rfl
  | .txt _, _ => rfl
  | .tup ds, h => by
    simp only [LF] at h
    simp only [LG]
    exact LGs.of h
  | .lst _, h => by simp [LF] at h
  | .sc _, h => by simp [LF] at h
  | .fe, h => by simp [LF] at h
  | .ty _, h => by simp [LF] at h
  | .tp _, h => by simp [LF] at h
  | .dk _, h => by simp [LF] at h
  | .dt _, h => by simp [LF] at h
  | .kf _, h => by simp [LF] at h
  | .tf _, h => by simp [LF] at h
  | .ex _ _ _, h => by simp [LF] at h
  | .cl _, h => by simp [LF] at h
  | .nt _, h => by simp [LF] at h
  | .kt _, h => by simp [LF] at h
theorem LGs.of : ∀ {ds : List D}, LFs ds = true → LGs ds = true
  | [], _ => rfl
  | d :: ds, h => by
    simp only [LFs, Bool.and_eq_true] at h
    simp only [LGs, Bool.and_eq_true]
    exact ⟨LG.of h.1, LGs.of h.2⟩
end
mutual
theorem Rp.lg {K : PySem.W.Frag} {B B' H : Hp} (s : Same B H) (ht : ∀ a ts, H a = some (HO.tup ts) → B' a = some (HO.tup ts)) (hf : ∀ a o ts, B a = some (HO.frz o (HO.tup ts)) → B' a = some (HO.frz o (HO.tup ts))) (he : ∀ a o, B a = some (HO.frz o (HO.lst [])) → B' a = some (HO.frz o (HO.lst []))) : ∀ {d : D} {v : V}, LG d = true → Rp K B d v → Rp K B' d v
  | _, _, _, .non => .non
  | _, _, _, .bl b => .bl b
  | _, _, _, .int i => .int i
  | _, _, _, .str x h => .str x h
  | .ty _, _, h, _ => by simp [LG] at h
  | _, _, _, .txt x => .txt x
  | _, _, h, .tup h' r => .tup (ht _ _ (s _ _ h')) (Rps.lg s ht hf he (by simpa [LG] using h) r)
  | _, _, h, .lst _ _ => by simp [LG] at h
  | _, _, h, .sc _ => by simp [LG] at h
  | _, _, _, .fe h => .fe (he _ _ h)
  | _, _, h, .tp h' e r => .tp (hf _ _ _ h') e (Rps.lg s ht hf he (by simpa [LG] using h) r)
  | _, _, h, .dk _ _ _ => by simp [LG] at h
  | _, _, h, .dt _ _ _ => by simp [LG] at h
  | _, _, h, .kf _ _ _ => by simp [LG] at h
  | _, _, h, .tf _ _ _ => by simp [LG] at h
  | _, _, h, .ex _ _ _ => by simp [LG] at h
  | _, _, h, .cl _ => by simp [LG] at h
  | _, _, h, .nt _ => by simp [LG] at h
  | _, _, h, .kt _ _ => by simp [LG] at h
theorem Rps.lg {K : PySem.W.Frag} {B B' H : Hp} (s : Same B H) (ht : ∀ a ts, H a = some (HO.tup ts) → B' a = some (HO.tup ts)) (hf : ∀ a o ts, B a = some (HO.frz o (HO.tup ts)) → B' a = some (HO.frz o (HO.tup ts))) (he : ∀ a o, B a = some (HO.frz o (HO.lst [])) → B' a = some (HO.frz o (HO.lst []))) : ∀ {ds : List D} {vs : List V}, LGs ds = true → Rps K B ds vs → Rps K B' ds vs
  | _, _, _, .nil => .nil
  | _, _, h, .cons r t => .cons (Rp.lg s ht hf he (by simp [LGs] at h; exact h.1) r) (Rps.lg s ht hf he (by simp [LGs] at h; exact h.2) t)
end
def kpS : Sl → Sl
  | .im d => if LG d = true then .im d else match d with
    | .lst ds => if LGs ds = true then .im (.lst ds) else .em
    | _ => .em
  | .ow (.lst ds) => if LGs ds = true then .im (.lst ds) else .em
  | .io _ (.lst ds) => if LGs ds = true then .im (.lst ds) else .em
  | _ => .em
def keepE (ks : List Nat) : Nat → Env → Env
  | _, [] => []
  | n, sl :: r => (if n ∈ ks then kpS sl else .em) :: keepE ks (n + 1) r
def lstS : Sl → List D
  | .im (.lst ds) => [.lst ds]
  | _ => []
def keepL (e : Env) : List D := e.flatMap lstS
theorem keepE_length (ks : List Nat) : ∀ (n : Nat) (e : Env), (keepE ks n e).length = e.length
  | _, [] => rfl
  | n, _ :: r => by simp [keepE, keepE_length ks (n + 1) r]
theorem keepE_get (ks : List Nat) : ∀ (n : Nat) (e : Env) (i : Nat), (keepE ks n e)[i]? = (e[i]?).map fun sl => if n + i ∈ ks then kpS sl else .em
  | _, [], _ => by simp [keepE]
  | n, _ :: r, 0 => by simp [keepE]
  | n, _ :: r, i + 1 => by
    simp only [keepE, List.getElem?_cons_succ]
    rw [keepE_get ks (n + 1) r i, show n + 1 + i = n + (i + 1) by omega]
/-- what is kept of a slot: data without lists, or one list of such -/
theorem kpS_ok {K : PySem.W.Frag} {A : Anc} {B H : Hp} {sl : Sl} {ov : Option V} (s : SlOk K A B H sl ov) (sB : Same B H) : kpS sl = .em ∨ (∃ d v, kpS sl = .im d ∧ LG d = true ∧ ov = some v ∧ Rp K B d v) ∨ ∃ ds p xs, kpS sl = .im (.lst ds) ∧ LGs ds = true ∧ ov = some (.ref p) ∧ H p = some (.lst xs) ∧ Rps K B ds xs := by
  cases s with
  | em => exact .inl rfl
  | bk _ _ _ _ => exact .inl rfl
  | @im d v r =>
    unfold kpS
    dsimp only
    by_cases h : LG d = true
    · rw [if_pos h]
      exact .inr (.inl ⟨d, v, rfl, h, rfl, r⟩)
    · rw [if_neg h]
      cases d with
      | lst ds =>
        dsimp only
        by_cases h2 : LGs ds = true
        · rw [if_pos h2]
          cases r with
          | @lst a xs _ h3 r => exact .inr (.inr ⟨ds, a, xs, rfl, h2, rfl, sB _ _ h3, r⟩)
        · rw [if_neg h2]
          exact .inl rfl
      | _ => exact .inl rfl
  | @ow d p b h c =>
    generalize hp : H p = o at c
    cases c with
    | @lst xs ds r =>
      unfold kpS
      dsimp only
      by_cases h2 : LGs ds = true
      · rw [if_pos h2]
        exact .inr (.inr ⟨ds, p, xs, rfl, h2, rfl, hp, r⟩)
      · rw [if_neg h2]
        exact .inl rfl
    | dk _ _ => exact .inl rfl
    | dt _ _ => exact .inl rfl
  | @io d p j h c =>
    generalize hp : H p = o at c
    cases c with
    | @lst xs ds r =>
      unfold kpS
      dsimp only
      by_cases h2 : LGs ds = true
      · rw [if_pos h2]
        exact .inr (.inr ⟨ds, p, xs, rfl, h2, rfl, hp, r⟩)
      · rw [if_neg h2]
        exact .inl rfl
    | dk _ _ => exact .inl rfl
    | dt _ _ => exact .inl rfl
theorem SR.keep {K : PySem.W.Frag} {A : Anc} {B H : Hp} {σ : L2.St} {env : Env} (S : SR K A B H σ env) (ks : List Nat) : ∃ Bm, SR K ⟨noT H, Bm, fun _ => none, fun _ => none⟩ Bm H σ (keepE ks 0 env) ∧ ∀ a xs, Bm a = some (.lst xs) → ∃ dl ∈ keepL (keepE ks 0 env), Rp K Bm dl (.ref a) := by
  classical
  let kept : Addr → Prop := fun a => ∃ (i : Nat) (ds : List D), (keepE ks 0 env)[i]? = some (.im (.lst ds)) ∧ σ[i]? = some (some (.ref a))
  let Bm : Hp := fun a => if (∃ ts, H a = some (HO.tup ts)) ∨ kept a ∨ (∃ o ts, B a = some (HO.frz o (HO.tup ts))) ∨ ∃ o, B a = some (HO.frz o (HO.lst [])) then H a else none
  have hH : Same Bm H := fun a o e => by
    have e : (if (∃ ts, H a = some (HO.tup ts)) ∨ kept a ∨ (∃ o ts, B a = some (HO.frz o (HO.tup ts))) ∨ ∃ o, B a = some (HO.frz o (HO.lst [])) then H a else none) = some o := e
    split at e
    · exact e
    · cases e
  have ht : ∀ a ts, H a = some (HO.tup ts) → Bm a = some (HO.tup ts) := fun a ts e => by
    show (if _ then _ else _) = _
    rw [if_pos (.inl ⟨ts, e⟩)]
    exact e
  have hfz : ∀ a o ts, B a = some (HO.frz o (HO.tup ts)) → Bm a = some (HO.frz o (HO.tup ts)) := fun a o ts e => by
    show (if _ then _ else _) = _
    rw [if_pos (.inr (.inr (.inl ⟨o, ts, e⟩)))]
    exact S.same _ _ e
  have hfe : ∀ a o, B a = some (HO.frz o (HO.lst [])) → Bm a = some (HO.frz o (HO.lst [])) := fun a o e => by
    show (if _ then _ else _) = _
    rw [if_pos (.inr (.inr (.inr ⟨o, e⟩)))]
    exact S.same _ _ e
  have atp : ∀ (p : Addr) (i : Nat) (ds : List D), (keepE ks 0 env)[i]? = some (.im (.lst ds)) → σ[i]? = some (some (V.ref p)) → Bm p = H p := fun p i ds e1 e2 => by
    show (if _ then _ else _) = _
    rw [if_pos (.inr (.inl ⟨i, ds, e1, e2⟩))]
  have slot : ∀ (i : Nat) (sl : Sl) (ov : Option V), (keepE ks 0 env)[i]? = some sl → σ[i]? = some ov → sl = .em ∨ ∃ d v, sl = .im d ∧ ov = some v ∧ Rp K Bm d v := fun i sl ov e1 e2 => by
    have e1' := e1
    rw [keepE_get, Option.map_eq_some_iff] at e1
    obtain ⟨s0, h0, rfl⟩ := e1
    split at e1'
    · rename_i hk
      rw [if_pos hk]
      rcases kpS_ok (S.slot i s0 ov h0 e2) S.same with z | ⟨d, v, z, l, rfl, r⟩ | ⟨ds, p, xs, z, l, rfl, hp, r⟩
      · exact .inl z
      · exact .inr ⟨d, v, z, rfl, r.lg S.same ht hfz hfe l⟩
      · rw [z] at e1'
        exact .inr ⟨_, _, z, rfl, .lst (by rw [atp p i ds e1' e2]; exact hp) (r.lg S.same ht hfz hfe l)⟩
    · rename_i hk
      rw [if_neg hk]
      exact .inl rfl
  refine ⟨Bm, ⟨by rw [keepE_length]; exact S.len, hH, fun i sl ov e1 e2 => ?_, fun i j p s1 s2 ne e1 e2 m1 _ e3 _ => ?_, fun a o e _ => ⟨noT_some e, .inl rfl⟩, fun a ⟨j, h⟩ => (by cases h), fun a ⟨j, h⟩ => (by cases h), fun q hq => ⟨(S.tab q hq).1, ?_, noT_tab hq⟩⟩, fun a xs e => ?_⟩
  · rcases slot i sl ov e1 e2 with rfl | ⟨d, v, rfl, rfl, r⟩
    · exact .em
    · exact .im r
  · rcases slot i s1 _ e1 e3 with rfl | ⟨d, v, rfl, _, _⟩
    · cases m1
    · cases m1
  · obtain ⟨⟨ps, et, _⟩, tb, _⟩ := S.tab q hq
    show (if _ then _ else _) = _
    rw [if_neg]
    rintro (⟨ts, z⟩ | ⟨i, ds, z1, z2⟩ | ⟨o, ts, z⟩ | ⟨o, z⟩)
    · rw [et] at z
      cases z
    · rcases slot i _ _ z1 z2 with y | ⟨d, v, y, y2, r⟩
      · cases y
      · cases y
        cases y2
        cases r with
        | lst h3 _ =>
          have := hH _ _ h3
          rw [et] at this
          cases this
    · rw [tb] at z
      cases z
    · rw [tb] at z
      cases z
  · have e0 := e
    have e : (if (∃ ts, H a = some (HO.tup ts)) ∨ kept a ∨ (∃ o ts, B a = some (HO.frz o (HO.tup ts))) ∨ ∃ o, B a = some (HO.frz o (HO.lst [])) then H a else none) = some (.lst xs) := e
    split at e
    · rename_i hk
      rcases hk with ⟨ts, z⟩ | ⟨i, ds, z1, z2⟩ | ⟨o, ts, z⟩ | ⟨o, z⟩
      · rw [e] at z
        cases z
      · refine ⟨.lst ds, List.mem_flatMap.mpr ⟨_, List.mem_of_getElem? z1, by simp [lstS]⟩, ?_⟩
        rcases slot i _ _ z1 z2 with y | ⟨d, v, y, y2, r⟩
        · cases y
        · cases y
          cases y2
          exact r
      · have := S.same _ _ z
        rw [e] at this
        cases this
      · have := S.same _ _ z
        rw [e] at this
        cases this
    · cases e
end PD
namespace PD
variable [PD.TabL]
open PySem PySem.Spec PyProof.Rows L2

section
variable {K : PySem.W.Frag} {A : Anc} {B H : Hp} {σ τ : L2.St} {env pe : Env}
theorem SR.ext {H' : Hp} (S : SR K A B H σ env) (k : ∀ a o, noT H a = some o → H' a = some o) (ht : ∀ q ∈ TabL.T, LamX.TabS H' q.1 q.2) : SR K A B H' σ env := by
  refine ⟨S.len, fun a o e => k a o ((noT_of (S.tB e)).trans (S.same a o e)), fun i sl ov e1 e2 => ?_, S.inj, fun a o e n => ?_, fun a n => ?_, S.ioh, fun q hq => ⟨ht q hq, (S.tab q hq).2⟩⟩
  · refine (S.slot i sl ov e1 e2).grow (Same.refl _) (fun q d e m c => ?_) (fun _ _ _ z => z)
    obtain ⟨o, ho⟩ := c.some
    rw [ho, k q o ((noT_of (S.tC c)).trans ho)]
  · obtain ⟨e1, e2⟩ := S.anc a o e n
    exact ⟨k a o ((noT_of (S.tH e)).trans e1), e2⟩
  · obtain ⟨b', o, e, nt⟩ := S.iob a n
    obtain ⟨u, hu⟩ := S.ioh a n
    exact ⟨b', o, k a o ((noT_of (S.tH hu)).trans e), nt⟩
/-- slot f holds a new list of new lists; all else stands as ahead -/
structure RGI (K : PySem.W.Frag) (A : Anc) (f : Nat) (B H : Hp) (env : Env) (σ : L2.St) (d : D) (L : List D) : Prop where
  hf : f < env.length
  ef : env[f]? = some .em
  len : σ.length = env.length
  ex : ∃ (Hs Bm B2 : Hp) (q : Addr), Same B Hs ∧ (∀ a, Hs a = none → A.H0 a = none) ∧
    (∀ H' : Hp, (∀ a o, Hs a = some o → H' a = some o) → (∀ q ∈ TabL.T, LamX.TabS H' q.1 q.2) → SR K A B H' σ env) ∧
    (∀ (i : Nat) (sl : Sl) (p : Addr), env[i]? = some sl → sl.mut = true → σ[i]? = some (some (V.ref p)) → ∃ o, Hs p = some o) ∧
    (Same Bm Hs ∧ ∀ a xs, Bm a = some (HO.lst xs) → ∃ dl ∈ L, Rp K Bm dl (.ref a)) ∧
    SR K ⟨Hs, Bm, fun _ => none, fun _ => none⟩ B2 H σ ((emp env.length).set f (.im d)) ∧ σ[f]? = some (some (.ref q)) ∧ Hs q = none
abbrev RM := Env → D → List D → Option (Fl × Env)
end
end PD
namespace PD
variable [PD.TabL]
open PySem PySem.Spec PyProof.Rows L2

section
variable {K : PySem.W.Frag} {A : Anc} {B H : Hp} {σ τ : L2.St} {env pe : Env}
theorem SR.own {f : Nat} {p : Addr} {d : D} (S : SR K A B H σ env) (hf : f < env.length) (hv : σ[f]? = some (some (.ref p))) (b : B p = none) (h0 : A.H0 p = none) (c : Cont K B d (H p)) (nm : ∀ (j : Nat) (sl : Sl), j ≠ f → env[j]? = some sl → sl.mut = true → σ[j]? ≠ some (some (V.ref p))) :
    SR K A B H σ (env.set f (.ow d)) := by
  have gi : ∀ j sl, (env.set f (Sl.ow d))[j]? = some sl → (j = f ∧ sl = .ow d) ∨ (j ≠ f ∧ env[j]? = some sl) := fun j sl e => by
    by_cases hj : f = j
    · subst hj
      rw [List.getElem?_set_self hf] at e
      exact .inl ⟨rfl, (Option.some.inj e).symm⟩
    · rw [List.getElem?_set_ne hj] at e
      exact .inr ⟨fun z => hj z.symm, e⟩
  refine ⟨by simp [S.len], S.same, fun i sl ov e1 e2 => ?_, fun i j q s1 s2 ne e1 e2 m1 m2 e3 e4 => ?_, S.anc, S.iob, S.ioh, S.tab⟩
  · rcases gi i sl e1 with ⟨rfl, rfl⟩ | ⟨_, e1⟩
    · rw [hv] at e2
      cases e2
      exact .ow b h0 c
    · exact S.slot i sl ov e1 e2
  · rcases gi i s1 e1 with ⟨rfl, rfl⟩ | ⟨n1, f1⟩
    · rw [hv] at e3
      cases e3
      rcases gi j s2 e2 with ⟨rfl, rfl⟩ | ⟨n2, f2⟩
      · exact ne rfl
      · exact nm j s2 n2 f2 m2 e4
    · rcases gi j s2 e2 with ⟨rfl, rfl⟩ | ⟨n2, f2⟩
      · rw [hv] at e4
        cases e4
        exact nm i s1 n1 f1 m1 e3
      · exact S.inj i j q s1 s2 ne f1 f2 m1 m2 e3 e4
end

section
variable (g : G0) (c : Ct)
end
section
variable {g : G0} {c : Ct} {V : List Nat} {e : Expr} {pos : Pos} {m n : SM} {mt : M Bool} {me : M Vl} {s : Stmt} {ss r : List Stmt} {f tg : Nat} {mr : RM}
end

section
variable {e : Env} {Q : Fl → Env → Prop} {f tg : Nat} {V : List Nat} {m mb mr : SM} {rm : RM} {d : D} {L : List D} {m1 m2 : M Vl} {ks : List Nat}
end
end PD
namespace PD
variable [PD.TabL]
open PySem PySem.Spec PyProof.Rows L2
def getZ (e : Env) (r : Vl) : List Vl → Option (Vl × Env)
  | [rk, .im x] => match cnt e r with
    | some (.dk es) => match cnt e rk with
      | some kd => match keyD kd with
        | some k => some (.im ((getK es k).getD x), e)
        | none => none
      | none => none
    | _ => none
  | _ => none
def eGetZ (m : M Vl) (ms : M (List Vl)) : M Vl := bd m fun r => bd (ckT "dict" r.hold) fun _ => bd ms fun rs e => getZ e r.hold rs
section
variable {K : PySem.W.Frag} {A : Anc}
end
theorem W_eGetZ {e : Env} {m : M Vl} {ms : M (List Vl)} {Q : Vl → Env → Prop} : @W _ (eGetZ m ms) e ⟨Q⟩ = @W _ m e ⟨fun r e1 => @W _ (ckT "dict" r.hold) e1 ⟨fun _ e2 => @W _ ms e2 ⟨fun rs e3 => match rs with
    | [rk, .im x] => @WO _ (cnt e3 r.hold) ⟨fun d => match d with
      | .dk es => @WO _ (cnt e3 rk) ⟨fun kd => @WO _ (keyD kd) ⟨fun k => Q (.im ((getK es k).getD x)) e3⟩⟩
      | _ => False⟩
    | _ => False⟩⟩⟩ := by
  unfold eGetZ
  simp only [W_eq, WO_eq, bd]
  cases m e with
  | none => rfl
  | some p =>
    obtain ⟨r, e1⟩ := p
    dsimp only
    cases ckT "dict" r.hold e1 with
    | none => rfl
    | some q =>
      obtain ⟨q, e2⟩ := q
      dsimp only
      cases ms e2 with
      | none => rfl
      | some w =>
        obtain ⟨w, e3⟩ := w
        dsimp only
        match w with
        | [] => rfl
        | [_] => rfl
        | [_, .fr _] => rfl
        | [_, .bo _] => rfl
        | _ :: b :: _ :: _ => cases b <;> rfl
        | [rk, .im x] =>
          dsimp only [getZ]
          cases cnt e3 r.hold with
          | none => rfl
          | some d =>
            cases d with
            | dk es =>
              dsimp only
              cases cnt e3 rk with
              | none => rfl
              | some kd =>
                dsimp only
                cases keyD kd <;> rfl
            | _ => rfl
end PD
namespace PD
variable [PD.TabL]
open PySem PySem.Spec PyProof.Rows L2
mutual
def apT (L : List D) : D → Bool
  | .non => true
  | .bl _ => true
  | .int _ => true
  | .str _ => true
  | .txt _ => true
  | .ty _ => true
  | .tup ds => apTs L ds
  | .tp ds => apTs L ds
  | .lst ds => L.all (fun h => apart h (.lst ds)) && apTs L ds
  | _ => false
def apTs (L : List D) : List D → Bool
  | [] => true
  | d :: ds => apT L d && apTs L ds
end
def mutL : Env → List D
  | [] => []
  | .ow d :: r => d :: mutL r
  | .io _ d :: r => d :: mutL r
  | _ :: r => mutL r
section
variable {K : PySem.W.Frag} {A : Anc} {B H : Hp} {σ τ : L2.St} {env pe : Env}
end
/-- .. the slots are frozen while it runs -/
def eTmpA (m : M Vl) : M Vl := fun e => match m (e.map Sl.frz) with
  | some (.im d, _) => if apT (mutL e) d = true then some (.im d, e) else none
  | some (.fr (.lst ds), _) => if apTs (mutL e) ds = true then some (.fr (.lst ds), e) else none
  | _ => none
section
variable {K : PySem.W.Frag} {A : Anc} {B H : Hp} {σ τ : L2.St} {env pe : Env}
end
theorem W_eTmpA {e : Env} {m : M Vl} {Q : Vl → Env → Prop} : @W _ (eTmpA m) e ⟨Q⟩ = @WO _ (some (e.map Sl.frz)) ⟨fun e0 => @W _ m e0 ⟨fun r _ => match r with
    | .im d => @WC (apT (mutL e) d) ⟨Q (.im d) e⟩
    | .fr (.lst ds) => @WC (apTs (mutL e) ds) ⟨Q (.fr (.lst ds)) e⟩
    | _ => False⟩⟩ := by
  unfold eTmpA
  simp only [W_eq, WO_eq, WC_eq]
  cases m (e.map Sl.frz) with
  | none => rfl
  | some p =>
    obtain ⟨r, e'⟩ := p
    cases r with
    | im d =>
      dsimp only
      cases apT (mutL e) d <;> simp
    | fr d =>
      cases d with
      | lst ds =>
        dsimp only
        cases apTs (mutL e) ds <;> simp
      | _ => rfl
    | bo i => rfl
end PD
namespace PD
variable [PD.TabL]
open PySem PySem.Spec PyProof.Rows L2
section
variable {prog : Program} {w : World} {A : Around} {E : Value → Shared → Prop} {s : Shared}
end
end PD
namespace PD
variable [PD.TabL]
open PySem PySem.Spec PyProof.Rows L2
def sPF4 (i j l k : Nat) (m n o w : M Vl) : SM := fun e => match bd m hb e with
  | some (r1, e1) => match bd n hb e1 with
    | some (r2, e2) => match bd o hb e2 with
      | some (r3, e3) => match bd w hb e3 with
        | some (r4, e4) => match gN k r4 e4 with
          | some (_, e5) => match gN l r3 e5 with
            | some (_, e6) => match gN j r2 e6 with
              | some (_, e7) => match gN i r1 e7 with
                | some (_, e8) => some (.nx, e8)
                | none => none
              | none => none
            | none => none
          | none => none
        | none => none
      | none => none
    | none => none
  | none => none
section
variable {K : PySem.W.Frag} {A : Anc}
end
section
variable {g : G0} {c : Ct} {a b d f : Expr} {m n o w : M Vl} {pos px py pz pw pt pt2 : Pos} {kt k2 : Nat}
end
theorem W_sPF4 {e : Env} {i j l k : Nat} {m n o w : M Vl} {Q : Fl → Env → Prop} : @W _ (sPF4 i j l k m n o w) e ⟨Q⟩ = @W _ m e ⟨fun r e0 => @W _ (hb r) e0 ⟨fun r1 e1 => @W _ n e1 ⟨fun s e2 => @W _ (hb s) e2 ⟨fun r2 e3 => @W _ o e3 ⟨fun t f0 => @W _ (hb t) f0 ⟨fun r3 f1 => @W _ w f1 ⟨fun x f2 => @W _ (hb x) f2 ⟨fun r4 f3 => @W _ (gN k r4) f3 ⟨fun _ f4 => @W _ (gN l r3) f4 ⟨fun _ f5 => @W _ (gN j r2) f5 ⟨fun _ f6 => @W _ (gN i r1) f6 ⟨fun _ f7 => Q .nx f7⟩⟩⟩⟩⟩⟩⟩⟩⟩⟩⟩⟩ := by
  unfold sPF4
  simp only [W_eq, bd]
  cases m e with
  | none => rfl
  | some p =>
    dsimp only
    cases hb p.1 p.2 with
    | none => rfl
    | some q =>
      dsimp only
      cases n q.2 with
      | none => rfl
      | some s =>
        dsimp only
        cases hb s.1 s.2 with
        | none => rfl
        | some z =>
          dsimp only
          cases o z.2 with
          | none => rfl
          | some a =>
            dsimp only
            cases hb a.1 a.2 with
            | none => rfl
            | some b =>
              dsimp only
              cases w b.2 with
              | none => rfl
              | some c =>
                dsimp only
                cases hb c.1 c.2 with
                | none => rfl
                | some d =>
                  dsimp only
                  cases gN k d.1 d.2 with
                  | none => rfl
                  | some f =>
                    dsimp only
                    cases gN l b.1 f.2 with
                    | none => rfl
                    | some h =>
                      dsimp only
                      cases gN j z.1 h.2 with
                      | none => rfl
                      | some h2 =>
                        dsimp only
                        cases gN i q.1 h2.2 <;> rfl
end PD
namespace HT
open PySem PySem.Spec PyProof.Rows
section
variable {prog : Program} {w : World} {A : Around} {E : Value → Shared → Prop} {s : Shared}
end
end HT
namespace PD
variable [PD.TabL]
open PySem PySem.Spec PyProof.Rows L2
section
variable {X : Cx}
end
def rev7D : D → Option D
  | .tup [d1, d2, d3, d4, d5, d6, d7] => some (.tup [d7, d6, d5, d4, d3, d2, d1])
  | _ => none
def eRev7 (ma : M Vl) : M Vl := bd ma fun r e => match cnt e r.hold with
  | some d => match rev7D d with
    | some d' => some (.im d', e)
    | none => none
  | none => none
theorem W_eRev7 {ma : M Vl} {e : Env} {Q : Vl → Env → Prop} : @W _ (eRev7 ma) e ⟨Q⟩ = @W _ ma e ⟨fun r e1 => @WO _ (cnt e1 r.hold) ⟨fun d => @WO _ (rev7D d) ⟨fun d' => Q (.im d') e1⟩⟩⟩ := by
  unfold eRev7
  simp only [W_eq, WO_eq, bd]
  cases ma e with
  | none => rfl
  | some p =>
    dsimp only
    try rw [WO_eq]
    cases cnt p.2 p.1.hold with
    | none => rfl
    | some d =>
      dsimp only
      try rw [WO_eq]
      cases rev7D d <;> rfl
section
variable {g : G0} {c : Ct} {a : Expr} {k : Nat} {p1 p2 p3 pos : Pos} {ma : M Vl}
end

def bI (b : Bool) : Int := if b = true then 1 else 0
def addND : List D → Option Vl
  | [.int i, .int j] => some (.im (.int (i + j)))
  | [.bl b, .int j] => some (.im (.int (bI b + j)))
  | _ => none
def subND : List D → Option Vl
  | [.int i, .int j] => some (.im (.int (i - j)))
  | [.bl b, .int j] => some (.im (.int (bI b - j)))
  | _ => none
def strI (i : Int) : Str := Str.ofString (toString i)
def strB (b : Bool) : Str := Str.ofString (if b then "True" else "False")
def strND : List D → Option Vl
  | [.int i] => if i.natAbs < 2 ^ 200 ∧ PyData.strOk (strI i) = true then some (.im (.str (strI i))) else none
  | [.bl b] => some (.im (.str (strB b)))
  | _ => none
/-- .. or of any shown thing -/
def strXD : List D → Option Vl
  | [.str x] => some (.im (.str x))
  | [.int i] => strND [.int i]
  | [.bl b] => strND [.bl b]
  | [.non] => some (.im (.str (Str.ofString "None")))
  | [.lst ds] => reprD [.lst ds]
  | [.tup ds] => reprD [.tup ds]
  | _ => none
theorem strB_ok (b : Bool) : PyData.strOk (strB b) = true := by cases b <;> decide +kernel
theorem call_str_bl {X : Cx} : CallR X (.type "str") (fun xs H Q => ∃ b, xs = [.bl b] ∧ Q (.str (strB b)) H) := by
  intro pins s σ H xs us Q I r h
  obtain ⟨b, rfl, q⟩ := h
  obtain ⟨u, rfl, ru⟩ := vals1 r
  cases ru
  cases b with
  | true => exact PySem.P.str_of_bool ⟨.str _, H, I.tok _, ⟨s.toks, rfl⟩, q⟩
  | false => exact PySem.P.str_of_bool ⟨.str _, H, I.tok _, ⟨s.toks, rfl⟩, q⟩
theorem call_str_non {X : Cx} : CallR X (.type "str") (fun xs H Q => xs = [.non] ∧ Q (.str (Str.ofString "None")) H) := by
  intro pins s σ H xs us Q I r h
  obtain ⟨rfl, q⟩ := h
  obtain ⟨u, rfl, ru⟩ := vals1 r
  cases ru
  exact PySem.P.str_of_none ⟨.str _, H, I.tok _, ⟨s.toks, rfl⟩, q⟩
abbrev rStrX (K : PySem.W.Frag) : List V → Hp → VK → Prop := fun xs H Q => ((∃ i, xs = [.int i] ∧ i.natAbs.log2 < 1920 ∧ Q (.str (toString i)) H) ∨ (∃ b, xs = [.bl b] ∧ Q (.str (strB b)) H)) ∨ ((xs = [.non] ∧ Q (.str (Str.ofString "None")) H) ∨ rStr K xs H Q)
theorem cr_strX {g : G0} {c : Ct} {X : Cx} (hX : Cok g c X) : CallR X (.type "str") (rStrX g.K) := CallR.or' (CallR.or' call_str_int call_str_bl) (CallR.or' call_str_non (by rw [← hX.eK]; exact call_strD hX.room hX.gu))
theorem strN_ok {g : G0} {A : Anc} {B H : Hp} {vs : L2.St} {env : Env} {xs : List V} {d : D} {res : Vl} {Q : VK} (S : SR g.K A B H vs env) (rr : Paired (Rr g.K B H) [d] xs) (e : strND [d] = some res) (q : ∀ B' H' v, Same B B' → VRp g.K A B' H' vs env res v → Q v H') : rStrX g.K xs H Q := by
  unfold strND at e
  split at e
  · rename_i i he
    cases he
    split at e
    · rename_i hi
      cases e
      obtain ⟨v, rfl, r⟩ := pr1 rr
      refine .inl (.inl ⟨i, by rw [r.int], ?_, q B H _ (Same.refl _) ⟨S, .str _ hi.2⟩⟩)
      by_cases h0 : i.natAbs = 0
      · rw [h0]
        decide
      · have := (Nat.log2_lt h0).mpr hi.1
        omega
    · cases e
  · rename_i b he
    cases he
    cases e
    obtain ⟨v, rfl, r⟩ := pr1 rr
    exact .inl (.inr ⟨b, by rw [r.bl], q B H _ (Same.refl _) ⟨S, .str _ (strB_ok b)⟩⟩)
  · cases e
theorem ca_strN {g : G0} : CaI g (.type "str") strND := by
  refine ⟨rStrX g.K, fun c X hX => cr_strX hX, fun A B H vs env xs ds res Q S rr e q => ?_⟩
  have e0 := e
  unfold strND at e
  split at e
  · exact strN_ok S rr e0 q
  · exact strN_ok S rr e0 q
  · cases e
theorem ca_strX {g : G0} : CaI g (.type "str") strXD := by
  refine ⟨rStrX g.K, fun c X hX => cr_strX hX, fun A B H vs env xs ds res Q S rr e q => ?_⟩
  unfold strXD at e
  split at e
  · rename_i x
    cases e
    obtain ⟨v, rfl, r⟩ := pr1 rr
    have hv := r.str
    obtain ⟨rfl, _⟩ := hv
    refine .inr (.inr (.inl ⟨x, rfl, q B H _ (Same.refl _) ⟨S, ?_⟩⟩))
    cases r with
    | fz r => exact r
  · exact strN_ok S rr e q
  · exact strN_ok S rr e q
  · cases e
    obtain ⟨v, rfl, r⟩ := pr1 rr
    exact .inr (.inl ⟨by rw [r.non], q B H _ (Same.refl _) ⟨S, .str _ (by decide +kernel)⟩⟩)
  · obtain ⟨v, rfl, r⟩ := pr1 rr
    obtain ⟨a, us, rfl, _⟩ := r.lst S.same
    exact .inr (.inr (strD_seq S r ⟨_, rfl⟩ e q))
  · obtain ⟨v, rfl, r⟩ := pr1 rr
    refine .inr (.inr (strD_seq S r ?_ e q))
    cases r with
    | fz r => cases r with
      | tup _ _ => exact ⟨_, rfl⟩
    | ct c => exact ⟨_, rfl⟩
  · cases e
end PD
namespace PD
variable [PD.TabL]
open PySem PySem.Spec PyProof.Rows L2

section
variable {prog : Program} {w : World} {A : Around} {s : Shared}
end
section
variable {X : Cx} {pins : List (Addr × Obj)} {σ : L2.St} {H : Hp} {s : Shared}
end
section
variable {X : Cx}
end
end PD
namespace PD
open PySem PySem.Spec PyProof.Rows L2

/-- the tables of cs, with the names that they tell -/
@[reducible] def tabL (cs : List (Addr × Addr × Str)) : TabL := ⟨cs.map fun p => p.2, fun _ => none, none, none, fun _ => none⟩
end PD
namespace PD
variable [PD.TabL]
open PySem PySem.Spec PyProof.Rows L2
end PD
namespace PD
variable [PD.TabL]
open PySem PySem.Spec PyProof.Rows L2

inductive EntI : List DictEntry → List (Str × Int) → Prop
  | nil : EntI [] []
  | cons {e : DictEntry} {r : List DictEntry} {x : Str} {i : Int} {t t2 : Tok} {es : List (Str × Int)} : e.key = .str x t → e.val = .int i t2 → EntI r es → EntI (e :: r) ((x, i) :: es)
theorem EntI.find {z : Str} : ∀ {l : List DictEntry} {es : List (Str × Int)}, EntI l es → (∃ i t, (l.find? fun d => Value.isStrOf z d.key).map (fun e => e.val) = some (Value.int i t) ∧ es.lookup z = some i) ∨ ((l.find? fun d => Value.isStrOf z d.key) = none ∧ es.lookup z = none)
  | _, _, .nil => .inr ⟨rfl, rfl⟩
  | _, _, .cons (e := e) (x := x) (i := i) (t := t) (t2 := t2) h1 h2 r => by
    by_cases hz : z = x
    · subst hz
      refine .inl ⟨i, t2, ?_, by simp [List.lookup]⟩
      rw [List.find?_cons_of_pos (by rw [h1]; simp [Value.isStrOf])]
      simp [h2]
    · have hb : (z == x) = false := beq_eq_false_iff_ne.mpr hz
      rw [List.find?_cons_of_neg (by rw [h1]; simp [Value.isStrOf]; exact fun e => hz (by first | exact e | exact e.symm)), List.lookup_cons, hb]
      exact r.find
structure GVK (g : G0) (x : Str) (es : List (Str × Int)) : Prop where
  ex : ∃ (a : Addr) (arr : Array DictEntry) (n : Nat), g.mg x = some (.ref a) ∧ g.K.lookup a = some ⟨.type "dict", none, .dict arr n, #[]⟩ ∧ PySem.W.KeysLit g.w.params arr.toList ∧ (a == sysModules) = false ∧ EntI arr.toList es
end PD
namespace PD
variable [PD.TabL]
open PySem PySem.Spec PyProof.Rows L2

end PD
namespace PD
variable [PD.TabL]
open PySem PySem.Spec PyProof.Rows L2

end PD
namespace PD
variable [PD.TabL]
open PySem PySem.Spec PyProof.Rows L2

def lstLF : D → Bool
  | .lst cs => LFs cs
  | _ => false
def cNn : M (List D) := rt []
def cAn (m : M Vl) (ms : M (List D)) : M (List D) := bd m fun r => match r with
  | .fr d => bd ms fun ds => rt (d :: ds)
  | _ => fun _ => none
section
variable {K : PySem.W.Frag} {A : Anc} {B H : Hp} {σ τ : L2.St} {env pe : Env}
end
section
variable (g : G0) (c : Ct)
end
section
variable {g : G0} {c : Ct} {e : Expr} {es : List Expr} {pos p1 : Pos} {m : M Vl} {ms : M (List D)} {f : Nat} {mr : RM} {r : List Stmt}
end
section
variable {e : Env} {Q : Fl → Env → Prop} {f : Nat} {m : M Vl} {ms : M (List D)} {rm : RM}
def frK (P : D → Prop) : Vl → Prop
  | .fr d => P d
  | _ => False
theorem frK_fr {P : D → Prop} {d : D} : frK P (.fr d) = P d := rfl
theorem W_cNn {Q : List D → Env → Prop} : @W _ cNn e ⟨Q⟩ = Q [] e := W_eq
theorem W_cAn {Q : List D → Env → Prop} : @W _ (cAn m ms) e ⟨Q⟩ = @W _ m e ⟨fun r e1 => frK (fun d => @W _ ms e1 ⟨fun ds e2 => Q (d :: ds) e2⟩) r⟩ := by
  simp only [W_eq]
  unfold cAn bd
  cases m e with
  | none => rfl
  | some p =>
    obtain ⟨r, e1⟩ := p
    cases r with
    | fr d =>
      dsimp only [frK]
      cases ms e1 with
      | none => rfl
      | some p => rfl
    | _ => rfl
end
end PD
namespace PD
variable [PD.TabL]
open PySem PySem.Spec PyProof.Rows L2

def atomV : D → Bool
  | .dk es => es.all fun x => x.2.atom
  | .dt es => es.all fun x => x.2.atom
  | .lst ds => ds.all D.atom
  | _ => false
section
variable {K : PySem.W.Frag} {A : Anc} {B H : Hp} {σ τ : L2.St} {env pe : Env}
/-- slot f holds a new list of new lists; all else stands as ahead, no old list is told -/
structure RGN (K : PySem.W.Frag) (A : Anc) (f : Nat) (B H : Hp) (env : Env) (σ : L2.St) (d : D) : Prop where
  hf : f < env.length
  ef : env[f]? = some .em
  len : σ.length = env.length
  ex : ∃ (Hs B2 : Hp) (q : Addr), Same B Hs ∧ (∀ a, Hs a = none → A.H0 a = none) ∧
    (∀ H' : Hp, (∀ a o, Hs a = some o → H' a = some o) → (∀ q ∈ TabL.T, LamX.TabS H' q.1 q.2) → SR K A B H' σ env) ∧
    (∀ (i : Nat) (sl : Sl) (p : Addr), env[i]? = some sl → sl.mut = true → σ[i]? = some (some (V.ref p)) → ∃ o, Hs p = some o) ∧
    SR K ⟨Hs, fun _ => none, fun _ => none, fun _ => none⟩ B2 H σ ((emp env.length).set f (.im d)) ∧ σ[f]? = some (some (.ref q)) ∧ Hs q = none
abbrev RN := Env → D → Option (Fl × Env)
end
section
variable (g : G0) (c : Ct)
end
section
variable {g : G0} {c : Ct} {V : List Nat} {e : Expr} {es : List Expr} {pos p1 : Pos} {m : SM} {s : Stmt} {ms : M (List D)} {f u : Nat} {mr : RN} {mR : RM} {r : List Stmt}
end
section
variable {e : Env} {Q : Fl → Env → Prop} {f u : Nat} {V : List Nat} {m : SM} {ms : M (List D)} {rm : RN} {d : D}
/-- what a run leaves in slot u -/
def nxK (P : Prop) : Fl → Prop
  | .nx => P
  | _ => False
theorem nxK_nx {P : Prop} : nxK P .nx = P := rfl
end
end PD
namespace PD
variable [PD.TabL]
open PySem PySem.Spec PyProof.Rows L2

section
variable {X : Cx}
end
end PD
namespace PD
variable [PD.TabL]
open PySem PySem.Spec PyProof.Rows L2

def tyF : D → Bool
  | .kf _ => true
  | .tf _ => true
  | _ => false
def ckF (r : Vl) : M Unit := fun e => match cnt e r with
  | some d => if tyF d = true then some ((), e) else none
  | none => none
def eMf (f : List D → Option Vl) (m : M Vl) (ms : M (List Vl)) : M Vl := bd m fun r => bd (ckF r.hold) fun _ => bd ms fun rs e => match cnts e (r.hold :: rs) with
  | some ds => match f ds with
    | some (.im d) => some (.im d, e)
    | some (.fr d) => some (.fr d, e)
    | _ => none
  | none => none
section
variable {K : PySem.W.Frag} {A : Anc}
end
section
variable {g : G0} {c : Ct} {o e : Expr} {es : List Expr} {m : M Vl} {ms : M (List Vl)} {pos apos : Pos} {T id : String} {name : Str} {f : List D → Option Vl}
end
section
variable {e : Env}
theorem W_ckF {r : Vl} {Q : Unit → Env → Prop} : @W _ (ckF r) e ⟨Q⟩ = @WO _ (cnt e r) ⟨fun d => @WC (tyF d) ⟨Q () e⟩⟩ := by
  unfold ckF
  simp only [W_eq, WO_eq]
  cases cnt e r with
  | none => rfl
  | some d =>
    dsimp only
    unfold WC
    cases tyF d <;> simp
theorem W_eMf {f : List D → Option Vl} {m : M Vl} {ms : M (List Vl)} {Q : Vl → Env → Prop} : @W _ (eMf f m ms) e ⟨Q⟩ = @W _ m e ⟨fun r e1 => @W _ (ckF r.hold) e1 ⟨fun _ e2 => @W _ ms e2 ⟨fun rs e3 => @WO _ (cnts e3 (r.hold :: rs)) ⟨fun ds => @WO _ (f ds) ⟨fun v => match v with | .im d => Q (.im d) e3 | .fr d => Q (.fr d) e3 | .bo _ => False⟩⟩⟩⟩⟩ := by
  unfold eMf
  simp only [W_eq, WO_eq, bd]
  cases m e with
  | none => rfl
  | some p =>
    obtain ⟨r, e1⟩ := p
    dsimp only
    cases ckF r.hold e1 with
    | none => rfl
    | some q =>
      obtain ⟨q, e2⟩ := q
      dsimp only
      cases ms e2 with
      | none => rfl
      | some w =>
        obtain ⟨w, e3⟩ := w
        dsimp only
        cases cnts e3 (r.hold :: w) with
        | none => rfl
        | some ds =>
          dsimp only
          cases f ds with
          | none => rfl
          | some v => cases v <;> rfl
end
end PD
namespace PD
variable [PD.TabL]
open PySem PySem.Spec PyProof.Rows L2

def lkD : D → Option D
  | .dk es => some (.kf es)
  | .dt es => some (.tf es)
  | _ => none
def eTmpD (i : Nat) (m : M Vl) : M Vl := fun e => match e[i]? with
  | some (.ow d) => match lkD d with
    | some d' => match m ((e.map Sl.frz).set i (.im d')) with
      | some (.fr (.lst ys), _) => if ys.all D.atom = true then some (.fr (.lst ys), e) else none
      | _ => none
    | none => none
  | _ => none
section
variable {K : PySem.W.Frag}
end
theorem W_eTmpD {e : Env} {i : Nat} {m : M Vl} {Q : Vl → Env → Prop} : @W _ (eTmpD i m) e ⟨Q⟩ = @WO _ e[i]? ⟨fun sl => match sl with
    | .ow (.dk es) => @WO _ (setO (e.map Sl.frz) i (.im (.kf es))) ⟨fun e0 => @W _ m e0 ⟨fun r _ => match r with | .fr (.lst ys) => @WC (ys.all D.atom) ⟨Q (.fr (.lst ys)) e⟩ | _ => False⟩⟩
    | .ow (.dt es) => @WO _ (setO (e.map Sl.frz) i (.im (.tf es))) ⟨fun e0 => @W _ m e0 ⟨fun r _ => match r with | .fr (.lst ys) => @WC (ys.all D.atom) ⟨Q (.fr (.lst ys)) e⟩ | _ => False⟩⟩
    | _ => False⟩ := by
  have sO : ∀ {l : Env} {i : Nat} {x : Sl}, i < l.length → setO l i x = some (l.set i x) := fun {l i x} h => by
    rw [← setO_ok, if_pos h]
  rw [W_eq, WO_eq]
  unfold eTmpD
  cases he : e[i]? with
  | none => rfl
  | some sl =>
    have hil := (List.getElem?_eq_some_iff.mp he).1
    cases sl with
    | ow d =>
      cases d <;> try rfl
      · dsimp only [lkD]
        rw [sO (by rw [List.length_map]; exact hil), WO_some, W_eq]
        generalize m _ = z
        cases z with
        | none => rfl
        | some p =>
          obtain ⟨r, e1⟩ := p
          cases r with
          | im d => rfl
          | bo i => rfl
          | fr d =>
            cases d <;> try rfl
            rename_i ys
            dsimp only
            unfold WC
            cases ys.all D.atom <;> simp
      · dsimp only [lkD]
        rw [sO (by rw [List.length_map]; exact hil), WO_some, W_eq]
        generalize m _ = z
        cases z with
        | none => rfl
        | some p =>
          obtain ⟨r, e1⟩ := p
          cases r with
          | im d => rfl
          | bo i => rfl
          | fr d =>
            cases d <;> try rfl
            rename_i ys
            dsimp only
            unfold WC
            cases ys.all D.atom <;> simp
    | _ => rfl
end PD
namespace PD
variable [PD.TabL]
open PySem PySem.Spec PyProof.Rows L2

def getI : D → D → Option Int
  | .dk es, k => match keyD k with
    | some k => match getK es k with
      | some (.int a) => some a
      | _ => none
    | none => none
  | .dt es, .tup ks => match keysD ks with
    | some k => match getK es k with
      | some (.int a) => some a
      | _ => none
    | none => none
  | _, _ => none
def mAugS (f : Int → Int → Int) (mo mi me : M Vl) : M Unit := bd mo fun r0 => match r0 with
  | .bo i => bd mi fun r1 => bd (frz r1.hold) fun k e2 => match mutAtD e2 i with
    | some d0 => match getI d0 k with
      | some a => bd me (fun r2 e3 => match r2 with
        | .im (.int b) => match mutAtD e3 i with
          | some d1 => match setDk d1 k (.int (f a b)) with
            | some d' => some ((), putC e3 i d')
            | none => none
          | none => none
        | _ => none) e2
      | none => none
    | none => none
  | _ => fun _ => none
def sAugS (f : Int → Int → Int) (mo mi me : M Vl) : SM := fun e => match mAugS f mo mi me e with
  | some (_, e') => some (.nx, e')
  | none => none
section
variable {K : PySem.W.Frag} {A : Anc}
end
section
variable {g : G0} {c : Ct} {o i e : Expr} {mo mi me : M Vl} {pos pos' : Pos}
end
theorem W_sAugS {e : Env} {f : Int → Int → Int} {mo mi me : M Vl} {Q : Fl → Env → Prop} : @W _ (sAugS f mo mi me) e ⟨Q⟩ = @W _ mo e ⟨fun r0 e1 => match r0 with
    | .bo i => @W _ mi e1 ⟨fun r1 e1' => @W _ (frz r1.hold) e1' ⟨fun k e2 => @WO _ (mutAtD e2 i) ⟨fun d0 => @WO _ (getI d0 k) ⟨fun a => @W _ me e2 ⟨fun r2 e3 => match r2 with
      | .im (.int b) => @WO _ (mutAtD e3 i) ⟨fun d1 => @WO _ (setDk d1 k (.int (f a b))) ⟨fun d' => Q .nx (putC e3 i d')⟩⟩
      | _ => False⟩⟩⟩⟩⟩
    | _ => False⟩ := by
  unfold sAugS mAugS
  simp only [W_eq, WO_eq, bd]
  cases mo e with
  | none => rfl
  | some p =>
    obtain ⟨r0, e1⟩ := p
    cases r0 with
    | im d => rfl
    | fr d => rfl
    | bo i =>
      simp only [bd]
      cases mi e1 with
      | none => rfl
      | some q =>
        obtain ⟨r1, e2⟩ := q
        dsimp only
        cases frz r1.hold e2 with
        | none => rfl
        | some w =>
          obtain ⟨k, e3⟩ := w
          dsimp only
          cases mutAtD e3 i with
          | none => rfl
          | some d0 =>
            dsimp only
            cases getI d0 k with
            | none => rfl
            | some a =>
              dsimp only
              cases me e3 with
              | none => rfl
              | some z =>
                obtain ⟨r2, e4⟩ := z
                dsimp only
                cases r2 with
                | fr d => rfl
                | bo j => rfl
                | im d =>
                  cases d <;> try rfl
                  rename_i b
                  dsimp only
                  cases mutAtD e4 i with
                  | none => rfl
                  | some d1 =>
                    dsimp only
                    cases setDk d1 k (.int (f a b)) <;> rfl
end PD
namespace PD
variable [PD.TabL]
open PySem PySem.Spec PyProof.Rows L2

def mDi (m : M Vl) : M (List D) := fun e => match m e with
  | some (.bo i, e1) => match e1[i]? with
    | some (.ow (.dk es)) => if (es.all fun x => keyOk x.1) = true then some (es.map itD, e1.set i (.im (.kf es))) else none
    | some (.im (.kf es)) => if (es.all fun x => keyOk x.1) = true then some (es.map itD, e1) else none
    | _ => none
  | some (.im (.kf es), e1) => if (es.all fun x => keyOk x.1) = true then some (es.map itD, e1) else none
  | _ => none
theorem W_mDi {e : Env} {m : M Vl} {Q : List D → Env → Prop} : @W _ (mDi m) e ⟨Q⟩ = @W _ m e ⟨fun r e1 => match r with
    | .bo i => @WO _ e1[i]? ⟨fun sl => match sl with
      | .ow (.dk es) => @WC (es.all fun x => keyOk x.1) ⟨@WO _ (setO e1 i (.im (.kf es))) ⟨fun e2 => Q (es.map itD) e2⟩⟩
      | .im (.kf es) => @WC (es.all fun x => keyOk x.1) ⟨Q (es.map itD) e1⟩
      | _ => False⟩
    | .im (.kf es) => @WC (es.all fun x => keyOk x.1) ⟨Q (es.map itD) e1⟩
    | _ => False⟩ := by
  have sO : ∀ {l : Env} {i : Nat} {sl x : Sl}, l[i]? = some sl → setO l i x = some (l.set i x) := fun {l i sl x} h => by
    rw [← setO_ok, if_pos (List.getElem?_eq_some_iff.mp h).1]
  unfold mDi
  simp only [W_eq]
  cases m e with
  | none => rfl
  | some p =>
    obtain ⟨r, e1⟩ := p
    cases r with
    | fr d => rfl
    | im d =>
      cases d <;> try rfl
      rename_i es
      dsimp only
      generalize List.all _ _ = c
      cases c <;> simp [WC]
    | bo i =>
      dsimp only
      rw [WO_eq]
      cases hs : e1[i]? with
      | none => rfl
      | some sl =>
        cases sl with
        | em => rfl
        | io j d => rfl
        | bk _ _ => rfl
        | im d =>
          cases d <;> try rfl
          dsimp only
          generalize List.all _ _ = c
          cases c <;> simp [WC]
        | ow d =>
          cases d <;> try rfl
          dsimp only
          rw [sO hs, WO_some]
          generalize List.all _ _ = c
          cases c <;> simp [WC]

end PD
namespace PD
variable [PD.TabL]
open PySem PySem.Spec PyProof.Rows L2

mutual
/-- no walked dict within -/
def noKf : D → Bool
  | .kf _ => false
  | .tf _ => false
  | .ex _ _ _ => false
  | .cl _ => false
  | .nt _ => false
  | .kt _ => false
  | .tup ds => noKfs ds
  | .lst ds => noKfs ds
  | .tp ds => noKfs ds
  | .dk es => noKfk es
  | .dt es => noKft es
  | _ => true
def noKfs : List D → Bool
  | [] => true
  | d :: ds => noKf d && noKfs ds
def noKfk : List (Key × D) → Bool
  | [] => true
  | e :: es => noKf e.2 && noKfk es
def noKft : List (List Key × D) → Bool
  | [] => true
  | e :: es => noKf e.2 && noKft es
end
section
variable {K : PySem.W.Frag} {B B' : Hp}
end
def noKfS : Sl → Bool
  | .em => true
  | .im d => noKf d
  | .ow d => noKf d
  | .io _ d => noKf d
  | .bk _ _ => false
def sLkS (u : Nat) (m : SM) : SM := fun e => match e[u]? with
  | some (.ow d) => match lkD d with
    | some d' => match m (e.set u (.im d')) with
      | some (.nx, e1) => if (e1.set u .em).all noKfS = true then some (.nx, e1.set u (.ow d)) else none
      | _ => none
    | none => none
  | _ => none
section
variable {K : PySem.W.Frag} {A : Anc}
end
section
variable {g : G0} {c : Ct} {V : List Nat} {e : Expr} {pos : Pos} {m : M Vl} {n : SM} {s : Stmt}
end
theorem W_sLkS {e : Env} {u : Nat} {m : SM} {Q : Fl → Env → Prop} : @W _ (sLkS u m) e ⟨Q⟩ = @WO _ e[u]? ⟨fun sl => match sl with
    | .ow (.dk es) => @WO _ (setO e u (.im (.kf es))) ⟨fun e0 => @W _ m e0 ⟨fun fl e1 => match fl with | .nx => @WC ((e1.set u .em).all noKfS) ⟨Q .nx (e1.set u (.ow (.dk es)))⟩ | _ => False⟩⟩
    | .ow (.dt es) => @WO _ (setO e u (.im (.tf es))) ⟨fun e0 => @W _ m e0 ⟨fun fl e1 => match fl with | .nx => @WC ((e1.set u .em).all noKfS) ⟨Q .nx (e1.set u (.ow (.dt es)))⟩ | _ => False⟩⟩
    | _ => False⟩ := by
  have sO : ∀ {l : Env} {i : Nat} {x : Sl}, i < l.length → setO l i x = some (l.set i x) := fun {l i x} h => by
    rw [← setO_ok, if_pos h]
  rw [W_eq, WO_eq]
  unfold sLkS
  cases he : e[u]? with
  | none => rfl
  | some sl =>
    have hil := (List.getElem?_eq_some_iff.mp he).1
    cases sl with
    | ow d =>
      cases d <;> try rfl
      · dsimp only [lkD]
        rw [sO hil, WO_some, W_eq]
        generalize m _ = z
        cases z with
        | none => rfl
        | some p =>
          obtain ⟨fl, e1⟩ := p
          cases fl <;> try rfl
          dsimp only
          generalize List.all _ _ = cc
          cases cc <;> simp [WC]
      · dsimp only [lkD]
        rw [sO hil, WO_some, W_eq]
        generalize m _ = z
        cases z with
        | none => rfl
        | some p =>
          obtain ⟨fl, e1⟩ := p
          cases fl <;> try rfl
          dsimp only
          generalize List.all _ _ = cc
          cases cc <;> simp [WC]
    | _ => rfl
end PD
namespace PD
variable [PD.TabL]
open PySem PySem.Spec PyProof.Rows L2

section
variable {P : Program} {w : World} {A : Around} {E : Value → Shared → Prop} {s : Shared}
end
end PD
namespace PD
variable [PD.TabL]
open PySem PySem.Spec PyProof.Rows L2
end PD
namespace PD
variable [PD.TabL]
open PySem PySem.Spec PyProof.Rows L2
section
variable {prog : Program} {w : World} {A : Around} {E : Value → Shared → Prop} {s : Shared}
end
section
variable {X : Cx}
end
end PD
namespace PD
variable [PD.TabL]
open PySem PySem.Spec PyProof.Rows L2
def dropM : Env → Env
  | [] => []
  | .ow _ :: r => .em :: dropM r
  | .io _ _ :: r => .em :: dropM r
  | .em :: r => .em :: dropM r
  | .bk _ _ :: r => .em :: dropM r
  | .im d :: r => .im d :: dropM r
def only : Nat → Env → Env
  | _, [] => []
  | 0, s :: r => s :: dropM r
  | u + 1, .ow _ :: r => .em :: only u r
  | u + 1, .io _ _ :: r => .em :: only u r
  | u + 1, .bk _ _ :: r => .em :: only u r
  | u + 1, .em :: r => .em :: only u r
  | u + 1, .im d :: r => .im d :: only u r
def eTmpU (u : Nat) (m : M Vl) : M Vl := fun e => match m ((only u e).map Sl.frz) with
  | some (.im d, _) => if apT (mutL (only u e)) d = true then some (.im d, e) else none
  | some (.fr (.lst ds), _) => if apTs (mutL (only u e)) ds = true then some (.fr (.lst ds), e) else none
  | _ => none
section
variable {K : PySem.W.Frag} {A : Anc} {B H : Hp} {σ τ : L2.St} {env pe : Env}
end
theorem W_eTmpU {e : Env} {u : Nat} {m : M Vl} {Q : Vl → Env → Prop} : @W _ (eTmpU u m) e ⟨Q⟩ = @WO _ (some ((only u e).map Sl.frz)) ⟨fun e0 => @W _ m e0 ⟨fun r _ => match r with
    | .im d => @WC (apT (mutL (only u e)) d) ⟨Q (.im d) e⟩
    | .fr (.lst ds) => @WC (apTs (mutL (only u e)) ds) ⟨Q (.fr (.lst ds)) e⟩
    | _ => False⟩⟩ := by
  unfold eTmpU
  simp only [W_eq, WO_eq, WC_eq]
  cases m ((only u e).map Sl.frz) with
  | none => rfl
  | some p =>
    obtain ⟨r, e'⟩ := p
    cases r with
    | im d =>
      dsimp only
      cases apT (mutL (only u e)) d <;> simp
    | fr d =>
      cases d with
      | lst ds =>
        dsimp only
        cases apTs (mutL (only u e)) ds <;> simp
      | _ => rfl
    | bo i => rfl
end PD
namespace PD
variable [PD.TabL]
open PySem PySem.Spec PyProof.Rows L2
section
variable {K : PySem.W.Frag} {A : Anc} {B H : Hp} {σ τ : L2.St} {env pe : Env}
/-- slot f holds a told thing; all else stands as ahead -/
structure RGJ (K : PySem.W.Frag) (A : Anc) (f : Nat) (B H : Hp) (env : Env) (σ : L2.St) (d : D) (L : List D) : Prop where
  hf : f < env.length
  ef : env[f]? = some .em
  len : σ.length = env.length
  ex : ∃ (Hs Bm B2 : Hp),
    (∀ H' : Hp, (∀ a o, Hs a = some o → H' a = some o) → (∀ q ∈ TabL.T, LamX.TabS H' q.1 q.2) → SR K A B H' σ env) ∧
    (∀ a xs, Bm a = some (HO.lst xs) → ∃ dl ∈ L, Rp K Bm dl (.ref a)) ∧
    Same Bm B2 ∧ SR K ⟨Hs, Bm, fun _ => none, fun _ => none⟩ B2 H σ ((emp env.length).set f (.im d))
end
section
variable (g : G0) (c : Ct)
end
section
variable {g : G0} {c : Ct} {V : List Nat} {e o ec : Expr} {es : List Expr} {pos apos pos2 pos3 : Pos} {m n : SM} {mt : M Bool} {me mo : M Vl} {ms : M (List Vl)} {s : Stmt} {ss r : List Stmt} {f : Nat} {mr : RM} {id : String} {name : Str} {gf : D → List D → Option (D × D)}
end
section
variable {e : Env} {Q : Fl → Env → Prop} {f : Nat} {m1 mo : M Vl} {mt : M Bool} {ms : M (List Vl)} {mr : SM} {rm : RM} {d : D} {L : List D} {ks : List Nat} {gf : D → List D → Option (D × D)}
end
end PD
namespace PD
variable [PD.TabL]
open PySem PySem.Spec PyProof.Rows L2
def seqZ : D → Option (List D)
  | .lst ds => some ds
  | .fe => some []
  | _ => none
def mLz (m : M Vl) : M (List D) := bd m fun r => bd (frz r.hold) fun d e => (seqZ d).map fun l => (l, e)
section
variable {g : G0} {c : Ct} {e : Expr} {m : M Vl}
end
theorem W_mLz {m : M Vl} {e : Env} {Q : List D → Env → Prop} : @W _ (mLz m) e ⟨Q⟩ = @W _ m e ⟨fun r e1 => @W _ (frz r.hold) e1 ⟨fun d e2 => @WO _ (seqZ d) ⟨fun l => Q l e2⟩⟩⟩ := by
  unfold mLz
  simp only [W_eq, WO_eq, bd]
  cases m e with
  | none => rfl
  | some p =>
    dsimp only
    try rw [W_eq]
    cases frz p.1.hold p.2 with
    | none => rfl
    | some q =>
      dsimp only
      cases seqZ q.1 <;> rfl

section
variable {K : PySem.W.Frag} {A : Anc} {B H : Hp} {σ τ : L2.St} {env pe : Env} {VV : List Nat}
end
section
variable (g : G0) (c : Ct)
end
section
variable {g : G0} {c : Ct} {V VV : List Nat} {e o ec : Expr} {es : List Expr} {pos apos pos2 pos3 : Pos} {m n : SM} {mt : M Bool} {me mo : M Vl} {ms : M (List Vl)} {s : Stmt} {ss r : List Stmt} {f : Nat} {mr : RM} {id : String} {name : Str} {gf : D → List D → Option (D × D)}
end
end PD
namespace PD
variable [PD.TabL]
open PySem PySem.Spec PyProof.Rows L2
section
variable {K : PySem.W.Frag} {B B' : Hp}
end
section
variable {K : PySem.W.Frag} {A : Anc}
end
section
variable {g : G0} {c : Ct} {V : List Nat} {n : SM} {s : Stmt}
end
end PD
namespace PD
variable [PD.TabL]
open PySem PySem.Spec PyProof.Rows L2
section
variable {X : Cx}
end
section
variable {g : G0} {c : Ct} {o : Expr} {m : M Vl} {p p2 pos pos2 : Pos}
end
end PD
namespace PD
variable [PD.TabL]
open PySem PySem.Spec PyProof.Rows L2
section
variable {X : Cx}
end
end PD
namespace PD
variable [PD.TabL]
open PySem PySem.Spec PyProof.Rows L2
end PD
namespace PD
variable [PD.TabL]
open PySem PySem.Spec PyProof.Rows L2
def MaskG (m : Nat) : Prop := MaskOk m ∨ m = 511
/-- a table in which each key is found again: told by the pairs (hash, slot) -/
structure TabG (t : SetTable) (hs : List Int) : Prop where
  ris : Ris t.place.toList
  dm : t.dummies = #[]
  sz : t.place.size = hs.length
  mok : MaskG t.mask
  bd : ∀ x ∈ t.place.toList, x ≤ t.mask
  reach : ∀ p ∈ hs.zip t.place.toList, ∃ k, way t.mask p.1 k = p.2 ∧ ∀ k', k' < k → way t.mask p.1 k' ∈ t.place.toList
section
variable {t : SetTable} {hs : List Int}
theorem TabG.len (T : TabG t hs) : t.place.toList.length = hs.length := by
  rw [Array.length_toList]
  exact T.sz
end
abbrev IsMt (P : Program) (w : World) (h : Heap) (k : List Key) (b : Addr) : Prop := IsTupleKey (mixKind P w) h k b
abbrev mH (P : Program) (w : World) (k : List Key) : Int := tupleKeyHash (mixKind P w) k
section
variable {P : Program} {w : World} {A : Around} {E : Value → Shared → Prop} {s : Shared}
def rowsM (P : Program) (w : World) (L : List (Addr × List Key)) : List (Int × Value) := L.map fun p => (mH P w p.2, Value.ref p.1)
/-- a set of tuples, with its table -/
structure SetM (P : Program) (w : World) (h : Heap) (a : Addr) (L : List (Addr × List Key)) (es : Array (Int × Value)) (ep : Nat) (t : SetTable) : Prop where
  ob : ∃ o, h.get? a = some o ∧ o.ExactSet ∧ o.data = .set es ep t
  rows : es.toList = rowsM P w L
  tab : TabG t (L.map fun p => mH P w p.2)
  nd : (L.map (·.2)).Nodup
  tup : ∀ p ∈ L, IsMt P w h p.2 p.1
  led : w.params.followText "set-order" = true ∨ t.led = true
  room : L.length * 5 < t.mask * 3
  few : L.length < 307
variable {a : Addr} {L : List (Addr × List Key)} {es : Array (Int × Value)} {ep : Nat} {t : SetTable}
end
end PD
namespace PD
variable [PD.TabL]
open PySem PySem.Spec PyProof.Rows L2
section
variable {P : Program} {w : World} {A : Around} {E : Value → Shared → Prop} {s : Shared}
variable {a : Addr} {L : List (Addr × List Key)} {es : Array (Int × Value)} {ep : Nat} {t : SetTable}
end
end PD
namespace PD
variable [PD.TabL]
open PySem PySem.Spec PyProof.Rows L2
theorem IsMt.keep {P : Program} {w : World} {h h' : Heap} {k : List Key} {b : Addr} (x : IsMt P w h k b) (hk : ∀ c o, h.get? c = some o → h'.get? c = some o) : IsMt P w h' k b := by
  obtain ⟨o, its, n, ho, r⟩ := x
  exact ⟨o, its, n, hk b o ho, r⟩
theorem SetM.keep {P : Program} {w : World} {h h' : Heap} {a : Addr} {L : List (Addr × List Key)} {es : Array (Int × Value)} {ep : Nat} {t : SetTable} (R : SetM P w h a L es ep t) (ha : ∀ o, h.get? a = some o → h'.get? a = some o) (ht : ∀ p ∈ L, IsMt P w h' p.2 p.1) : SetM P w h' a L es ep t := by
  obtain ⟨o, ho, r⟩ := R.ob
  exact ⟨⟨o, ha o ho, r⟩, R.rows, R.tab, R.nd, ht, R.led, R.room, R.few⟩
end PD
namespace PD
variable [PD.TabL]
open PySem PySem.Spec PyProof.Rows L2
section
variable {X : Cx}
end
section
variable {g : G0} {c : Ct} {o : Expr} {m : M Vl} {p p2 pos pos2 : Pos}
end
end PD
namespace PD
variable [PD.TabL]
open PySem PySem.Spec PyProof.Rows L2
end PD
namespace PD
variable [PD.TabL]
open PySem PySem.Spec PyProof.Rows L2
def inTD : List D → Option Vl
  | [d, .tup ds] => if (d.isPy && arePy ds && depB 64 d && depsB 63 ds) = true then some (.im (.bl (ds.any fun z => eqB z d))) else none
  | _ => none
def rInTD (K : PySem.W.Frag) : R2 := fun x y H Q => ∃ d ds, Dp K H x d ∧ Dp K H y (.tuple ds) ∧ SeqAt.shaped d = true ∧ SeqAt.shaped (.tuple ds) = true ∧ Q (.bl (ds.any fun z => PyData.eqv z d)) H
theorem op_inTD0 {X : Cx} (hu : X.A.units + 65 < cLine) : OpR X (compareOp .In) (rInTD X.K) := by
  intro pins s σ H x y v u Q I rx ry h
  obtain ⟨d, ds, hd, he, sd, se, q⟩ := h
  obtain ⟨as, r1⟩ := Dp.reads I d x v hd rx
  obtain ⟨bs, r2⟩ := Dp.reads I (.tuple ds) y u he ry
  exact SeqAt.in_tuple_reads r2 r1 (SeqAt.canLay_of_shaped se) (SeqAt.canLay_of_shaped sd) (room_in_shaped sd hu) ⟨.bl _, H, I, rfl, q⟩
theorem op_inTD {g : G0} : OpI g (compareOp .In) inTD := by
  refine ⟨rInTD g.K, fun c X hX => by rw [← hX.eK]; exact op_inTD0 (room65 hX.room), fun A B H vs env xs ds res Q S rr e q => ?_⟩
  unfold inTD at e
  split at e
  · rename_i d es
    split at e
    · rename_i hs
      cases e
      simp only [Bool.and_eq_true] at hs
      obtain ⟨x, y, rfl, r1, r2⟩ := pr2 rr
      have h2 := r2.dp S.same (by simpa [D.isPy] using hs.1.1.2)
      have l2 := r2.lay
      simp only [D.py] at h2 l2
      refine ⟨d.py, pys es, r1.dp S.same hs.1.1.1, h2, ?_, ?_, ?_⟩
      · exact Bool.and_eq_true_iff.mpr ⟨r1.lay, hs.1.2⟩
      · refine Bool.and_eq_true_iff.mpr ⟨l2, decide_eq_true ?_⟩
        have := of_decide_eq_true hs.2
        simp only [PyData.depth]
        omega
      · rw [pys_any]
        exact q B H _ (Same.refl _) (.im S (.bl _))
    · cases e
  · cases e
theorem inTD_has {t u : Ty} {d : D} {ds : List D} (hd : Has t d) (hs : ∀ x ∈ ds, Has u x) (h1 : t.dep ≤ 64) (h2 : u.dep ≤ 63) : inTD [d, .tup ds] = some (.im (.bl (ds.any fun z => eqB z d))) := by
  have e := inB_has hd hs h1 h2
  rw [inB_lst] at e
  show (if (d.isPy && arePy ds && depB 64 d && depsB 63 ds) = true then some (Vl.im (.bl (ds.any fun z => eqB z d))) else none) = _
  split at e
  · rename_i h
    rw [if_pos h]
  · cases e
end PD
namespace PD
variable [PD.TabL]
open PySem PySem.Spec PyProof.Rows L2
section
variable {K : PySem.W.Frag} {A : Anc}
end
section
variable {g : G0} {c : Ct} {o e : Expr} {es : List Expr} {m : M Vl} {ms : M (List Vl)} {pos apos : Pos}
end
end PD
namespace PD
variable [PD.TabL]
open PySem PySem.Spec PyProof.Rows L2
section
variable {prog : Program} {w : World} {A : Around} {E : Value → Shared → Prop} {s : Shared} {Q : Value → Shared → Prop}
end
end PD
namespace PD
variable [PD.TabL]
open PySem PySem.Spec PyProof.Rows L2
theorem exK_ok {P : Program} {w : World} {H : Hp} {h : Heap} {a C : Addr} {d : Option Addr} {oe : Obj} {vs : Array Value} (e : h.get? a = some oe) (z : Zc (.ref C) d oe) (q : oe.data = .fields vs) : ObjOk P w H h a (ExK C d a) :=
  ⟨⟨oe, vs, e, z, q⟩, ⟨oe, e⟩, fun _ _ ⟨o, v, q1, r1⟩ k => ⟨o, v, k o q1, r1⟩⟩
section
variable {X : Cx} {pins : List (Addr × Obj)} {σ : L2.St} {H : Hp} {s : Shared}
/-- what came to stand at an address since the def began is looked at from now on -/
theorem seen {a C : Addr} {d : Option Addr} {oe : Obj} {vs : Array Value} (I : Inv X pins σ H s) (na : H a = none) (n0 : X.s_0.heap.get? a = none)
    (e : s.heap.get? a = some oe) (z : Zc (.ref C) d oe) (q : oe.data = .fields vs) (nL : a ≠ X.env.locals) (nP : ∀ p ∈ X.pn ++ pins, p.1 ≠ a) : Inv X pins σ (upd H a (ExK C d a)) s := by
  have ne : ∀ {b u}, X.s_0.heap.get? b = some u → b ≠ a := fun {b u} e1 e2 => by
    rw [e2, n0] at e1
    cases e1
  refine ⟨I.ok, I.os, I.bare, ⟨I.base.keep, I.base.slot, fun b u e1 n1 x1 => ?_, I.base.there, fun b xs e1 => ?_, fun b u xs e1 => ?_, fun b ps e1 => ?_⟩, I.loc, I.cell, ?_, fun x c e1 => ?_, fun p hp => ?_, ?_, I.len⟩
  · rw [upd_ne (ne e1)]
    exact I.base.free b u e1 n1 x1
  · have e2 := I.base.tups b xs e1
    rw [upd_ne (ne_of_none e2 na)]
    exact e2
  · have e2 := I.base.frzs b u xs e1
    rw [upd_ne (ne_of_none e2 na)]
    exact e2
  · obtain ⟨more, e2⟩ := I.base.tbls b ps e1
    refine ⟨more, ?_⟩
    rw [upd_ne (ne_of_none e2 na)]
    exact e2
  · rw [upd_ne fun z => nL z.symm]
    exact I.free
  · obtain ⟨v, o, e2, e3⟩ := I.cell x c e1
    rw [upd_ne fun z => by
      rw [z, e] at e2
      cases e2
      rw [q] at e3
      cases e3]
    exact I.freeC x c e1
  · obtain ⟨p1, p2, p3, p4, p5⟩ := I.pin p hp
    exact ⟨p1, by rw [upd_ne (nP p hp)]; exact p2, p3, p4, p5⟩
  · exact HOk.laidN I.hok (fun _ _ k => k) na (exK_ok e z q)
end
section
variable {X : Cx} {x n m : Str} {c : Value} {i j : Nat} {body : List Stmt} {np n2p mp ap pos pos' : Pos} {tb : WX → TS}
end
end PD
namespace PD
variable [PD.TabL]
open PySem PySem.Spec PyProof.Rows L2
/-- an error in the air: its class at C, its dict at d -/
def ExR (K : PySem.W.Frag) (A : Anc) (H : Hp) (n f : Str) (ds : List D) (C : Addr) (d : Option Addr) : Prop :=
  TabL.cls n = some C ∧ match ds, d with
    | [], none => True
    | [x], some dd => ∃ v, H dd = some (.xd [(f, v)]) ∧ (∀ B : Hp, Rp K B x v) ∧ A.H0 dd = none
    | _, _ => False
def exOf : Fl → Option (Str × Str × List D)
  | .rt (.fr (.ex n f ds)) => some (n, f, ds)
  | _ => none
section
variable (K : PySem.W.Frag) (A : Anc)
def FPX (B : Hp) (W : WX) (E : Ends) (env' : Env) (fl : Fl) : Prop := match exOf fl with
  | some x => ∀ σ' B' H' C d, Same B B' → SR K A B' H' σ' env' → ExR K A H' x.1 x.2.1 x.2.2 C d → W (.ref C) d σ' H'
  | none => FP K A B E env' fl
end
section
variable {K : PySem.W.Frag} {A : Anc} {W : WX} {B B' : Hp} {E : Ends} {env' : Env} {fl : Fl}
theorem FPX.mono (q : FPX K A B W E env' fl) (s : Same B B') : FPX K A B' W E env' fl := by
  unfold FPX at q ⊢
  split
  · rename_i x hx
    rw [hx] at q
    exact fun σ1 B1 H1 C d s1 => q σ1 B1 H1 C d (s.trans s1)
  · rename_i hx
    rw [hx] at q
    exact FP.mono s q
end
structure CokX (g : G0) (c : Ct) (X : Cx) (W : WX) : Prop where
  ok : Cok g c X.nox
  tk : Takes X W
  po : PassesOwn (model X.prog X.w) X.A X.env X.xe
  st : X.stack = X.env :: X.outer
  fr : X.env.frame = some X.env.locals
  ex : X.ex = []
section
variable (g : G0) (c : Ct)
end
section
variable {g : G0} {c : Ct} {e : Expr} {pos p : Pos} {m n : SM} {mt : M Bool} {s r : List Stmt} {st : Stmt}
end
end PD
namespace PD
variable [PD.TabL]
open PySem PySem.Spec PyProof.Rows L2
/-- C('..'), C without an __init__ of its own -/
def sRaise0 (n : Str) : SM := fun e => some (.rt (.fr (.ex n "" [])), e)
/-- C(e), C's __init__ keeps the number e in a field -/
def sRaise1 (n f : Str) (ms : M (List Vl)) : SM := fun e => match ms e with
  | some (rs, e1) => match cnts e1 rs with
    | some [.int i] => some (.rt (.fr (.ex n f [.int i])), e1)
    | _ => none
  | none => none
/-- what the text says of an error's class without __init__ -/
structure Er0 (g : G0) (n : Str) (C : Addr) : Prop where
  cl : TabL.cls n = some C
  mg : g.mg n = some (.ref C)
  ex : PySem.W.excIn g.K C [.type "ValueError", .type "Exception", .type "BaseException", .type "object"] "ValueError.__new__" = true
  kp : PySem.W.keepIn g.K (.ref C) = true
  sb : PySem.W.subIn g.K (.ref C) (.type "BaseException") = some true
  ty : PySem.W.typeIn g.K (.ref C) = some (.type "type")
section
variable {g : G0} {c : Ct} {n : Str} {C : Addr} {x : Str} {j : Nat} {p p2 pos pos2 : Pos}
end
section
variable {X : Cx} {e : Expr} {es : List Expr} {ta : TA} {x : Str} {CF : Addr} {p1 p2 pos : Pos}
end
/-- __init__(self, m): Base.__init__(self, '..'); self.f = m -/
def spI (K : PySem.W.Frag) (f : Str) : Sp := fun vs H Q _ => ∃ (a C : Addr) (y : V), vs = [.ref a, y] ∧ OexC K C ∧ PySem.W.findIn K (.ref C) f = some none ∧ H a = some (exo a C none) ∧
  ∀ dx, H dx = none → dx ≠ a → Q .non (upd (upd H dx (exd dx [(f, y)])) a (exo a C (some dx)))
structure Er1 (g : G0) (n f : Str) (C : Addr) (k : Nat) : Prop where
  cl : TabL.cls n = some C
  mg : g.mg n = some (.ref C)
  ox : OexC g.K C
  no : PySem.W.findIn g.K (.ref C) f = some none
  fi : ∃ fI fd ps, PySem.W.findIn g.K (.ref C) "__init__" = some (some (.ref fI)) ∧ PySem.W.typeIn g.K (.ref fI) = some (.type "function") ∧ FnOk g.P g.w g.K g.mg g.base CX0 k fI fd ps (spI g.K f) ∧ Binds g.K fd ps []
section
variable {g : G0} {c : Ct} {n f : Str} {C : Addr} {k : Nat} {e : Expr} {m : M Vl} {p pos pos2 : Pos}
end
end PD
namespace PD
variable [PD.TabL]
open PySem PySem.Spec PyProof.Rows L2
def exV : Vl → Option (Str × Str × List D)
  | .fr (.ex n f ds) => some (n, f, ds)
  | _ => none
/-- a def's promise: it tells, or an error leaves it -/
def spX (K : PySem.W.Frag) (F : Fs) : Sp := fun vs H Q E => ∃ (A : Anc) (B : Hp) (ds ds' : List D) (r : Vl), A.H0 = noT H ∧ A.B0 = B ∧ SR K A B H (vs.map some) (mkE 0 F.sig ds) ∧ ds.length = F.sig.length ∧ F.sem ds = some (r, ds') ∧
  (∀ B' H' v, Same B B' → ds'.length = ds.length → VRp K A B' H' (vs.map some) (mkE 0 F.sig ds') r v → Q v H') ∧
  (∀ x, exV r = some x → ∀ B' H' C d, Same B B' → ds'.length = ds.length → SR K A B' H' (vs.map some) (mkE 0 F.sig ds') → ExR K A H' x.1 x.2.1 x.2.2 C d → E (.ref C) d H')
theorem spX.len {K : PySem.W.Frag} {F : Fs} {vs : List V} {H : Hp} {Q : VK} {E : XK} (h : spX K F vs H Q E) : vs.length = F.sig.length := by
  obtain ⟨A, B, ds, ds', r, _, _, S, hd, _⟩ := h
  have := S.len
  rw [List.length_map] at this
  rw [this]
  exact mkE_length hd
section
variable {K : PySem.W.Frag}
end
structure FnGX (g : G0) (k : Nat) (f : Addr) (fd : FuncData) (ps : List Str) (sp : Sp) : Prop where
  len : ∀ vs H Q E, sp vs H Q E → vs.length = ps.length
  run : ∀ (A : Around) (outer : List PySem.Env) (s : Shared) (H : Hp) (args : Args) (us : List Value) (vs : List V) (Q : VK) (E : XK), Room k A → A.guards = some [] → Env0 g.P g.w g.K g.mg g.base A outer s H →
    BindsTo s fd args (ps.zip us) → Vals vs us → sp vs H Q E → codeAny (model g.P g.w) A (.call (.ref f) args) (CR (L2.CX g.P g.w) outer g.P g.w H s Q E) s
/-- the def x stands in the text and does F; it may raise -/
structure FnX (g : G0) (x : Str) (k : Nat) (F : Fs) : Prop where
  ex : ∃ (f : Addr) (fd : FuncData) (ps : List Str), g.mg x = some (.ref f) ∧ PySem.W.keepIn g.K (.ref f) = true ∧ Binds g.K fd ps [] ∧ FnGX g k f fd ps (spX g.K F)
end PD
namespace PD
variable [PD.TabL]
open PySem PySem.Spec PyProof.Rows L2
def FnN (F : Fs) : Fs := ⟨fun ds => match F.sem ds with
  | some (r, ds') => match exV r with
    | some _ => none
    | none => some (r, ds')
  | none => none, F.sig⟩
def Fk (sig : List Bool) (r : Vl) (ds' : List D) : Fs := ⟨fun _ => some (r, ds'), sig⟩
def sCallX (F : Fs) (ms : M (List Vl)) : SM := fun e => match ms e with
  | some (rs, e1) => match cnts e1 rs with
    | some ds => match F.sem ds with
      | some (r, ds') => match exV r with
        | some (n, f, xs) => (callE (Fk F.sig (.im .non) ds') rs e1).map fun p => (.rt (.fr (.ex n f xs)), p.2)
        | none => (callE (Fk F.sig r ds') rs e1).map fun p => (.nx, p.2)
      | none => none
    | none => none
  | none => none
section
variable {K : PySem.W.Frag} {A : Anc}
end
section
variable {g : G0} {c : Ct} {e : Expr} {es : List Expr} {pos p pos2 : Pos} {ms : M (List Vl)}
end
end PD
namespace PD
variable [PD.TabL]
open PySem PySem.Spec PyProof.Rows L2
def sTryK (m : SM) (i j : Nat) : SM := fun e => match m e with
  | some (fl, e1) => match exOf fl with
    | some (n, f, xs) => some (.nx, ((e1.set i (.im (.ex n f xs))).set j (.im (.ex n f xs))).set i .em)
    | none => match fl with
      | .nx => some (.nx, e1)
      | _ => none
  | none => none
section
variable {K : PySem.W.Frag} {A : Anc}
end
section
variable {g : G0} {c : Ct} {body : List Stmt} {m : SM} {x n mm : Str} {i j : Nat} {CF : Addr} {np n2p mp ap pos pos' : Pos}
end
end PD
namespace PD
variable [PD.TabL]
open PySem PySem.Spec PyProof.Rows L2
structure ExF (K : PySem.W.Frag) (C : Addr) : Prop where
  cl : (PySem.W.clsIn K C).isSome = true
  ga : PySem.W.findIn K (.ref C) "__getattribute__" = some (some (.builtin "BaseException.__getattribute__"))
  gg : PySem.W.findIn K (.ref C) "__getattr__" = some none
  sb : PySem.W.subIn K (.ref C) (.type "BaseException") = some true
  ca : PySem.W.findIn K (.ref C) "__class__" = some (some (.builtin "object.__class__"))
  mr : PySem.W.mroIn K C (.type "object") = some true
  hd : PySem.W.hasDictIn K C = true
/-- what is asked of errors of the classes ns: are they of ms -/
structure ErrF (g : G0) (ns ms : List Str) : Prop where
  gt : PySem.W.specialIn g.K (.builtin "object.__class__") "__get__" = some (some (.builtin "getset_descriptor.__get__"))
  tk : PySem.W.takesIn g.K (.builtin "object.__class__") = some true
  ex : ∀ n ∈ ns, ∀ C, TabL.cls n = some C → ExF g.K C
  is : ∀ n ∈ ns, ∀ m ∈ ms, ∀ C Cm, TabL.cls n = some C → TabL.cls m = some Cm → PySem.W.kitOne g.K (.ref C) (.ref Cm) = some (decide (n = m))
  ve : ∀ n ∈ ns, ∀ C, TabL.cls n = some C → PySem.W.kitOne g.K (.ref C) (.type "ValueError") = some true
def clsOf : D → Option Str
  | .cl n => some n
  | _ => none
section
variable {g : G0} {X : Cx} {pins : List (Addr × Obj)} {σ : L2.St} {H : Hp} {s : Shared}
/-- an error that is looked at -/
def ExH (H : Hp) (C : Addr) (a : Addr) : Prop := ∃ d, H a = some (ExK C d a) ∧ (d = none ∨ ∃ dd fs, d = some dd ∧ H dd = some (.xd fs))
end
section
variable {K : PySem.W.Frag} {B H : Hp}
theorem Rr.ex {n f : Str} {ds : List D} {v : V} (s : Same B H) (h : Rr K B H (.ex n f ds) v) : ∃ a C vs, v = .ref a ∧ TabL.cls n = some C ∧ ExAt H C f a vs ∧ Rps K B ds vs ∧ ExH H C a := by
  cases h with
  | fz r =>
    cases r with
    | @ex a C _ _ vs _ hc hx r =>
      have hx := hx.mono s
      refine ⟨a, C, vs, rfl, hc, hx, r, ?_⟩
      match vs, hx with
      | [], h => exact ⟨none, h, .inl rfl⟩
      | [v], ⟨dd, h1, h2⟩ => exact ⟨some dd, h1, .inr ⟨dd, _, rfl, h2⟩⟩
  | ct c =>
    rename_i p
    generalize H p = o at c
    cases c
theorem Rr.cl {n : Str} {v : V} (h : Rr K B H (.cl n) v) : ∃ C, v = .ref C ∧ TabL.cls n = some C := by
  cases h with
  | fz r =>
    cases r with
    | cl hc => exact ⟨_, rfl, hc⟩
  | ct c =>
    rename_i p
    generalize H p = o at c
    cases c
theorem Rps.cls {g : G0} {ns ms : List Str} {n : Str} {C : Addr} (E : ErrF g ns ms) (hn : n ∈ ns) (hc : TabL.cls n = some C) : ∀ {cs : List D} {vs : List V}, Rps K B cs vs → (∀ c ∈ cs, ∃ m ∈ ms, c = .cl m) →
    ∃ us, Paired ClsV vs us ∧ PySem.W.kitAny g.K (.ref C) us = some (cs.any fun c => decide (clsOf c = some n))
  | _, _, .nil, _ => ⟨[], .nil, rfl⟩
  | c :: cs, v :: vs, .cons r t, h => by
    obtain ⟨m, hm, rfl⟩ := h c (List.mem_cons_self ..)
    obtain ⟨us, h1, h2⟩ := Rps.cls E hn hc t fun c hc => h c (List.mem_cons_of_mem _ hc)
    cases r with
    | @cl Cm _ hcm =>
      have k := E.is n hn m hm C Cm hc hcm
      refine ⟨.ref Cm :: us, .cons (.own Cm) h1, ?_⟩
      unfold PySem.W.kitAny
      rw [k, List.any_cons]
      have e : decide (clsOf (.cl m) = some n) = decide (n = m) := by
        show decide (some m = some n) = _
        by_cases z : n = m
        · simp [z]
        · have z2 : ¬ m = n := fun y => z y.symm
          simp [z, z2]
      rw [e]
      cases decide (n = m) with
      | true => rfl
      | false => exact h2
end
section
variable {X : Cx} {e : Expr} {te : TE} {f : Str} {pos : Pos}
end
end PD
namespace PD
variable [PD.TabL]
open PySem PySem.Spec PyProof.Rows L2
structure FeF (K : PySem.W.Frag) (CF : Addr) : Prop where
  sp : PySem.W.specialIn K (.ref CF) "__getattribute__" = some (some (.builtin "type.__getattribute__"))
  rd : PySem.W.readsIn K CF (.type "type") = true
  fc : PySem.W.findCls K (.ref CF) (.type "type") "__init__" = some (.val (.builtin "ValueError.__init__"))
section
variable {g : G0} {c : Ct} {n f x : Str} {k : Nat} {e : Expr} {m : M Vl} {p p2 pos pos2 : Pos} {j : Nat} {y : Str}
end
/-- the classes by name -/
def clsL (L : List (Str × Addr)) (n : Str) : Option Addr := L.lookup n
end PD
namespace PD
variable [PD.TabL]
open PySem PySem.Spec PyProof.Rows L2
section
variable {e : Env} {n f : Str} {ms : M (List Vl)} {m : SM} {i j : Nat} {F : Fs} {Q : Fl → Env → Prop}
theorem W_sRaise0 : @W _ (sRaise0 n) e ⟨Q⟩ = Q (.rt (.fr (.ex n "" []))) e := W_eq
theorem W_sRaise1 : @W _ (sRaise1 n f ms) e ⟨Q⟩ = @W _ ms e ⟨fun rs e1 => @WO _ (cnts e1 rs) ⟨fun ds => match ds with
    | [.int i] => Q (.rt (.fr (.ex n f [.int i]))) e1
    | _ => False⟩⟩ := by
  unfold sRaise1
  simp only [W_eq, WO_eq]
  cases ms e with
  | none => rfl
  | some p =>
    dsimp only
    cases cnts p.2 p.1 with
    | none => rfl
    | some ds =>
      cases ds with
      | nil => rfl
      | cons d t => cases t <;> cases d <;> rfl
theorem W_sTryK : @W _ (sTryK m i j) e ⟨Q⟩ = @W _ m e ⟨fun fl e1 => match exOf fl with
    | some x => Q .nx (((e1.set i (.im (.ex x.1 x.2.1 x.2.2))).set j (.im (.ex x.1 x.2.1 x.2.2))).set i .em)
    | none => match fl with
      | .nx => Q .nx e1
      | _ => False⟩ := by
  unfold sTryK
  simp only [W_eq]
  cases m e with
  | none => rfl
  | some p =>
    dsimp only
    cases h : exOf p.1 with
    | some x =>
      obtain ⟨a, b, c⟩ := x
      rfl
    | none =>
      dsimp only
      cases p.1 <;> rfl
theorem W_sCallX : @W _ (sCallX F ms) e ⟨Q⟩ = @W _ ms e ⟨fun rs e1 => @WO _ (cnts e1 rs) ⟨fun ds => @WO _ (F.sem ds) ⟨fun p => match exV p.1 with
    | some x => @W _ (callE (Fk F.sig (.im .non) p.2) rs) e1 ⟨fun _ e2 => Q (.rt (.fr (.ex x.1 x.2.1 x.2.2))) e2⟩
    | none => @W _ (callE (Fk F.sig p.1 p.2) rs) e1 ⟨fun _ e2 => Q .nx e2⟩⟩⟩⟩ := by
  unfold sCallX
  simp only [W_eq, WO_eq]
  cases ms e with
  | none => rfl
  | some p =>
    dsimp only
    cases cnts p.2 p.1 with
    | none => rfl
    | some ds =>
      dsimp only
      cases F.sem ds with
      | none => rfl
      | some q =>
        obtain ⟨r, o⟩ := q
        dsimp only
        cases h : exV r with
        | some x =>
          obtain ⟨a, b, c⟩ := x
          dsimp only
          cases callE (Fk F.sig (.im .non) o) p.1 p.2 <;> rfl
        | none =>
          dsimp only
          cases callE (Fk F.sig r o) p.1 p.2 <;> rfl
end
theorem FnN_sig {F : Fs} : (FnN F).sig = F.sig := rfl
theorem Fk_sem {sig : List Bool} {r : Vl} {o ds : List D} : (Fk sig r o).sem ds = some (r, o) := rfl
theorem Fk_sig {sig : List Bool} {r : Vl} {o : List D} : (Fk sig r o).sig = sig := rfl
theorem exV_im {d : D} : exV (.im d) = none := rfl
theorem exV_ex {n f : Str} {ds : List D} : exV (.fr (.ex n f ds)) = some (n, f, ds) := rfl
theorem exOf_ex {n f : Str} {ds : List D} : exOf (.rt (.fr (.ex n f ds))) = some (n, f, ds) := rfl
theorem exOf_nx : exOf .nx = none := rfl
end PD
namespace PD
open PySem PySem.Spec PyProof.Rows L2
theorem top_walkX {l : PySem.W.OpenLaw} {n k : Nat} {q : Program} {loose : List Str} {XP : (Str → Option Value) → Heap → Prop} {YP : World → Heap → Prop} {d : DefRec} {K : Params → PySem.W.Frag} {x : Str} {F : Fs}
    (hn : l.most = some n) (hn2 : n ≤ sizeLine) (hdf : d.params.defaults = []) (hr : Room k callerA) (hY : ∀ (w : World) (h : Heap), YP w h → (K w.params).In h)
    (hF : ∀ (w : World) (mg : Str → Option Value) (fa : Addr) (h : Heap), (K w.params).In h → h.Ns mainGlobals mg → mg d.name = some (.ref fa) →
      ∃ (fd : FuncData) (L : List (Str × Addr)), (∀ (s : Shared) (u : Value), BindsTo s fd ⟨[u], []⟩ [(x, u)]) ∧ ∀ base : Heap, (K w.params).In base → base.Ns mainGlobals mg → FnG ⟨l.prog, w, K w.params, mg, base⟩ k fa fd [x] (@spF ⟨[], clsL L, none, none, fun _ => none⟩ (K w.params) F))
    (hsig : F.sig = [false]) (hsem : ∀ ns : List Int, ns.length ≤ n → ∃ o, F.sem [.sc ns] = some (.im (.bl true), o)) :
    PySem.W.WalkO q loose XP YP l.row.toRowW d [] (fun f vs => PySem.call f vs) := by
  refine Att.attach_call hn hdf fun w s₀ s1 mg mb fa o pm cd doc a vs ns G Y ho hd hcd hmg hobj hints hlen hg => ?_
  obtain ⟨fd, L, hb, hG⟩ := hF w mg fa _ (hY w _ Y) G.T.g hmg
  letI I0 : TabL := ⟨[], clsL L, none, none, fun _ => none⟩
  refine top_call (hY w _ Y) G.T.g G.T.b G.T.builtins G.T.nolimit hg hobj hints (Nat.le_trans hlen hn2) hr hG hb fun H hS => ?_
  obtain ⟨o, ho⟩ := hsem ns hlen
  have hT0 : I0.T = [] := rfl
  exact law_sp hsig ho (fun p hp => by rw [hT0] at hp; cases hp) (fun z => by
    obtain ⟨p, hp, _⟩ := List.mem_map.mp z
    rw [hT0] at hp
    cases hp) hS
end PD
namespace PD
variable [PD.TabL]
open PySem PySem.Spec PyProof.Rows L2
section
variable {K : PySem.W.Frag} {A : Anc} {B H : Hp} {σ τ : L2.St} {env pe : Env}
end
end PD
namespace PD
variable [PD.TabL]
open PySem PySem.Spec PyProof.Rows L2
def Anc.isBk (A : Anc) (a : Addr) : Prop := ∃ n x l, A.bk n = some (x, l) ∧ (a = x ∨ a = l)
def BkO : HO → Prop
  | .ins _ _ _ => True
  | .lst _ => True
  | _ => False
structure BkW (A : Anc) : Prop where
  cell : ∀ a, A.isBk a → ¬ A.isIo a ∧ A.B0 a = none ∧ ∃ o, A.H0 a = some o ∧ BkO o
structure RA (A A' : Anc) : Prop where
  io : A'.io = A.io
  bk : ∀ n c, n < 10 → A.bk n = some c → A'.bk n = some c
  old : ∀ a o, A.H0 a = some o → ¬ A.isBk a → A'.H0 a = some o ∧ A'.B0 a = A.B0 a
  new : ∀ a, A'.isBk a → A.isBk a ∨ A.H0 a = none
theorem RA.refl (A : Anc) : RA A A := ⟨rfl, fun _ _ _ h => h, fun _ _ h _ => ⟨h, rfl⟩, fun _ h => .inl h⟩
theorem RA.isBk {A A' : Anc} (h : RA A A') (k : ∀ n c, A.bk n = some c → n < 10) {a : Addr} (z : A.isBk a) : A'.isBk a :=
  let ⟨n, x, l, e, q⟩ := z
  ⟨n, x, l, h.bk _ _ (k _ _ e) e, q⟩
theorem RA.trans {A A' A2 : Anc} (h : RA A A') (h' : RA A' A2) : RA A A2 := by
  refine ⟨h'.io.trans h.io, fun n c k e => h'.bk n c k (h.bk n c k e), fun a o e n => ?_, fun a z => ?_⟩
  · obtain ⟨e1, e2⟩ := h.old a o e n
    obtain ⟨e3, e4⟩ := h'.old a o e1 fun z => by
      rcases h.new a z with z | z
      · exact n z
      · rw [e] at z
        cases z
    exact ⟨e3, e4.trans e2⟩
  · rcases h'.new a z with z | z
    · exact h.new a z
    · by_cases q : A.isBk a
      · exact .inl q
      · cases e : A.H0 a with
        | none => exact .inr rfl
        | some o =>
          rw [(h.old a o e q).1] at z
          cases z
theorem RA.isIo {A A' : Anc} (h : RA A A') (a : Addr) : A'.isIo a ↔ A.isIo a := by
  unfold Anc.isIo
  rw [h.io]
def insB {α : Type} (i : Nat) (a : α) (l : List α) : List α := l.take i ++ a :: l.drop i
section
variable {α : Type} {i j : Nat} {a : α} {l : List α}
theorem insB_length (hi : i ≤ l.length) : (insB i a l).length = l.length + 1 := by
  unfold insB
  rw [List.length_append, List.length_cons, List.length_take, List.length_drop]
  omega
end
section
variable {K : PySem.W.Frag} {A A' : Anc} {B H : Hp} {σ : L2.St} {env : Env}
def Sl.setBk (n : Nat) (b : BkS) : Sl → Sl
  | .bk m b0 => if m = n then .bk n b else .bk m b0
  | .em => .em
  | .im d => .im d
  | .ow d => .ow d
  | .io j d => .io j d
def setBk (n : Nat) (b : BkS) (e : Env) : Env := e.map (Sl.setBk n b)
end
end PD
namespace PD
variable [PD.TabL]
open PySem PySem.Spec PyProof.Rows L2
section
variable (K : PySem.W.Frag)
def FPB (A : Anc) (B : Hp) (W : WX) (E : Ends) (env' : Env) (fl : Fl) : Prop := ∀ A', RA A A' → BkW A' → FPX K A' B W E env' fl
/-- an expression's end: frozen data, or an error -/
def QB (A : Anc) (B : Hp) (W : WX) (Q : VK) (σ : L2.St) (env' : Env) (r : Vl) : Prop := match exV r with
  | some x => ∀ B' H' C d, Same B B' → SR K A B' H' σ env' → ExR K A H' x.1 x.2.1 x.2.2 C d → W (.ref C) d σ H'
  | none => ∀ B' H' v d, r = .im d → Same B B' → SR K A B' H' σ env' → Rp K B' d v → Q v H'
end
section
variable {K : PySem.W.Frag} {A : Anc} {W : WX} {B B' : Hp} {E : Ends} {env' : Env} {fl : Fl}
theorem FPB.mono (q : FPB K A B W E env' fl) (s : Same B B') : FPB K A B' W E env' fl := fun A1 r w => (q A1 r w).mono s
theorem QB.mono {Q : VK} {σ : L2.St} {r : Vl} (q : QB K A B W Q σ env' r) (s : Same B B') : QB K A B' W Q σ env' r := by
  unfold QB at q ⊢
  split
  · rename_i x hx
    rw [hx] at q
    exact fun B1 H1 C d s1 => q B1 H1 C d (s.trans s1)
  · rename_i hx
    rw [hx] at q
    exact fun B1 H1 v d e s1 => q B1 H1 v d e (s.trans s1)
/-- a op b, a may change a book -/
def eOpB (f : List D → Option Vl) (ma mb : M Vl) : M Vl := fun e => match ma e with
  | some (.im d, e1) => match mb e1 with
    | some (r2, e2) => match cnt e2 r2.hold with
      | some d2 => match f [d, d2] with
        | some (.im d3) => some (.im d3, e2)
        | _ => none
      | none => none
    | none => none
  | _ => none
def flB (r : Vl) (f : Fl) : Option Fl := match exV r with
  | some _ => some (.rt r)
  | none => match r with
    | .im _ => some f
    | _ => none
def sExpB (m : M Vl) : SM := fun e => match m e with
  | some (r, e1) => (flB r .nx).map fun f => (f, e1)
  | none => none
def sRetB (m : M Vl) : SM := fun e => match m e with
  | some (r, e1) => (flB r (.rt r)).map fun f => (f, e1)
  | none => none
def sSetB (j : Nat) (m : M Vl) : SM := fun e => match m e with
  | some (r, e1) => match exV r with
    | some _ => some (.rt r, e1)
    | none => match r with
      | .im d => if j < e1.length then some (.nx, e1.set j (.im d)) else none
      | _ => none
  | none => none
end
section
variable (g : G0) (c : Ct)
end
section
variable {g : G0} {c : Ct} {e a b : Expr} {es : List Expr} {pos p : Pos} {ma mb me : M Vl} {m n : SM} {mt mu : M Bool} {s r : List Stmt} {st : Stmt}
end
end PD
namespace PD
variable [PD.TabL]
open PySem PySem.Spec PyProof.Rows L2
structure FsB where
  /-- of the book and the other arguments: the answer, these behind it, the book behind it -/
  sem : BkS → List D → Option (Vl × List D × BkS)
  sig : List Bool
  pl : Nat
def BkS.nm (b : BkS) : Bool := b.t.nm && b.s.nm && nms b.ps
/-- a def's promise -/
def spB (K : PySem.W.Frag) (F : FsB) : Sp := fun vs H Q E => ∃ (A : Anc) (B : Hp) (b b' : BkS) (ds ds' : List D) (r : Vl), BkW A ∧ SR K A B H (vs.map some) (insB F.pl (.bk 0 b) (mkE 0 F.sig ds)) ∧ ds.length = F.sig.length ∧ F.pl ≤ F.sig.length ∧ F.sem b ds = some (r, ds', b') ∧
  ∀ A', RA A A' → BkW A' → ds'.length = ds.length → QB K A' B (fun c d _ H' => E c d H') Q (vs.map some) (insB F.pl (.bk 0 b') (mkE 0 F.sig ds')) r
theorem spB.len {K : PySem.W.Frag} {F : FsB} {vs : List V} {H : Hp} {Q : VK} {E : XK} (h : spB K F vs H Q E) : vs.length = F.sig.length + 1 := by
  obtain ⟨A, B, b, b', ds, ds', r, _, S, hd, hp, _⟩ := h
  have := S.len
  rw [List.length_map] at this
  rw [this, insB_length (by rw [mkE_length hd]; exact hp), mkE_length hd]
section
variable {K : PySem.W.Frag} {A : Anc} {B H : Hp} {σ : L2.St} {env : Env}
def isBkS : Option Sl → Bool
  | some (.bk _ _) => true
  | _ => false
def ckB (i : Nat) (ms : M (List Vl)) : M (List Vl) := fun e => if isBkS e[i]? = true then ms e else none
def Vl.nmB : Vl → Bool
  | .im d => d.nm
  | _ => true
def eCallB (F : FsB) (i : Nat) (ms : M (List Vl)) : M Vl := fun e => match ms e with
  | some (rs, e1) => match cnts e1 rs, e1[i]? with
    | some ds, some (.bk n b) => if (ioAll e1 F.sig rs && decide (ioIx F.sig rs).Nodup && disj (ioIx F.sig rs) (brIx e1 F.sig rs) && decide (F.pl ≤ F.sig.length)) = true then match F.sem b ds with
        | some (r, ds', b') => if (((brIx e1 F.sig rs).isEmpty || (r.nmB && nmOut F.sig ds')) && b'.nm) = true then some (r, setBk n b' (updE F.sig rs ds' e1)) else none
        | none => none
      else none
    | _, _ => none
  | none => none
end
section
variable {g : G0} {c : Ct} {e : Expr} {es : List Expr} {pos p apos : Pos} {m : M Vl} {ms : M (List Vl)} {i : Nat}
/-- a def of the text that is handed a book -/
structure FnB (g : G0) (x : Str) (k : Nat) (F : FsB) : Prop where
  ex : ∃ (f : Addr) (fd : FuncData) (ps : List Str), g.mg x = some (.ref f) ∧ PySem.W.keepIn g.K (.ref f) = true ∧ Binds g.K fd ps [] ∧ FnGX g k f fd ps (spB g.K F)
/-- a method of books -/
structure MtB (g : G0) (x : Str) (k : Nat) (F : FsB) : Prop where
  ex : ∃ (C f : Addr) (fd : FuncData) (ps : List Str), TabL.bkc = some C ∧ Cls g.K C ∧ Meth g.K C x f ∧ Binds g.K fd ps [] ∧ FnGX g k f fd ps (spB g.K F)
end
end PD
namespace PD
variable [PD.TabL]
open PySem PySem.Spec PyProof.Rows L2
def runB (sig : List Bool) (pl n : Nat) (body : SM) (b : BkS) (ds : List D) : Option (Vl × List D × BkS) :=
  if ds.length = sig.length ∧ pl ≤ sig.length then match body (insB pl (.bk 0 b) (mkE 0 sig ds) ++ List.replicate (n - (ds.length + 1)) .em) with
    | some (fl, e) => match e[pl]? with
      | some (.bk m b') => if m = 0 then match outE sig 0 (e.eraseIdx pl) ds with
          | some o => match fl with
            | .nx => some (.im .non, o, b')
            | .rt r => match exV r with
              | some _ => some (r, o, b')
              | none => match retV e r with
                | some (.im d) => some (.im d, o, b')
                | _ => none
            | _ => none
          | none => none
        else none
      | _ => none
    | none => none
  else none
section
variable {K : PySem.W.Frag} {A A' : Anc}
end
section
variable {g : G0}
/-- where a method of books stands -/
structure MtAt (g : G0) (x qual : Str) (st : Stmt) (ps : List Str) : Prop where
  ex : ∃ (C f : Addr) (fd : FuncData), TabL.bkc = some C ∧ Cls g.K C ∧ Meth g.K C x f ∧ Fun g.K x qual st f fd ∧ Binds g.K fd ps []
end
end PD
namespace PD
variable [PD.TabL]
open PySem PySem.Spec PyProof.Rows L2
structure FsR where
  sem : BkS → List D → Option Vl
  n : Nat
  pl : Nat
def spR (K : PySem.W.Frag) (F : FsR) : Sp := fun vs H Q _ => ∃ (A : Anc) (B : Hp) (b : BkS) (ds : List D) (r : Vl), SR K A B H (vs.map some) (insB F.pl (.bk 0 b) (ds.map Sl.im)) ∧ ds.length = F.n ∧ F.pl ≤ F.n ∧ F.sem b ds = some r ∧
  ∀ B' H' v, Same B B' → VRp K A B' H' (vs.map some) (insB F.pl (.bk 0 b) (ds.map Sl.im)) r v → Q v H'
theorem spR.len {K : PySem.W.Frag} {F : FsR} {vs : List V} {H : Hp} {Q : VK} {E : XK} (h : spR K F vs H Q E) : vs.length = F.n + 1 := by
  obtain ⟨A, B, b, ds, r, S, hd, hp, _⟩ := h
  have := S.len
  rw [List.length_map] at this
  rw [this, insB_length (by rw [List.length_map, hd]; exact hp), List.length_map, hd]
def runR (k pl n : Nat) (body : SM) (b : BkS) (ds : List D) : Option Vl :=
  if ds.length = k ∧ pl ≤ k then match body (insB pl (.bk 0 b) (ds.map Sl.im) ++ List.replicate (n - (k + 1)) .em) with
    | some (.nx, _) => some (.im .non)
    | some (.rt r, e) => retV e r
    | _ => none
  else none
section
variable {K : PySem.W.Frag} {A : Anc} {B H : Hp} {σ : L2.St} {env : Env}
def eCallR (F : FsR) (i : Nat) (ms : M (List Vl)) : M Vl := fun e => match ms e with
  | some (rs, e1) => match cnts e1 rs, e1[i]? with
    | some ds, some (.bk _ b) => if (decide (rs.length = F.n) && decide (F.pl ≤ F.n)) = true then match F.sem b ds with
        | some r => if ((brIx e1 (List.replicate rs.length false) rs).isEmpty || r.nm) = true then match r with
            | .im d => some (.im d, e1)
            | .fr d => some (.fr d, e1)
            | .bo _ => none
          else none
        | none => none
      else none
    | _, _ => none
  | none => none
end
structure FnR (g : G0) (x : Str) (k : Nat) (F : FsR) : Prop where
  ex : ∃ (f : Addr) (fd : FuncData) (ps : List Str), g.mg x = some (.ref f) ∧ PySem.W.keepIn g.K (.ref f) = true ∧ Binds g.K fd ps [] ∧ FnG g k f fd ps (spR g.K F)
structure MtR (g : G0) (x : Str) (k : Nat) (F : FsR) : Prop where
  ex : ∃ (C f : Addr) (fd : FuncData) (ps : List Str), TabL.bkc = some C ∧ Cls g.K C ∧ Meth g.K C x f ∧ Binds g.K fd ps [] ∧ FnG g k f fd ps (spR g.K F)
section
variable {g : G0} {c : Ct} {e : Expr} {es : List Expr} {pos p apos : Pos} {m : M Vl} {ms : M (List Vl)} {i : Nat}
end
end PD
namespace PD
variable [PD.TabL]
open PySem PySem.Spec PyProof.Rows L2
structure BkI (g : G0) : Prop where
  ex : ∃ C, TabL.bkc = some C ∧ Cls g.K C ∧ NoAttr g.K C "own_terrace" ∧ NoAttr g.K C "own_season" ∧ NoAttr g.K C "own_past"
def eFT (i : Nat) : M Vl := fun e => match e[i]? with
  | some (.bk _ b) => some (.im b.t, e)
  | _ => none
def eFS (i : Nat) : M Vl := fun e => match e[i]? with
  | some (.bk _ b) => some (.im b.s, e)
  | _ => none
/-- what is asked of the list of past seasons -/
def eP1 (f : List D → Option Vl) (i : Nat) : M Vl := fun e => match e[i]? with
  | some (.bk _ b) => match f [.lst b.ps] with
    | some (.im d) => some (.im d, e)
    | _ => none
  | _ => none
section
variable {g : G0} {A : Anc} {i : Nat}
end
section
variable {g : G0} {c : Ct} {i : Nat} {y : Str} {p pos p2 p3 : Pos}
end
def sKeep (i : Nat) : SM := fun e => match e[i]? with
  | some (.bk n b) => match appendD (.lst b.ps) [b.s] with
    | some (.lst ps', _) => some (.nx, setBk n { b with ps := ps' } e)
    | _ => none
  | _ => none
def sSea (i : Nat) (m : M Vl) : SM := fun e => match m e with
  | some (.im d, e1) => match e1[i]? with
    | some (.bk n b) => some (.nx, setBk n { b with s := d } e1)
    | _ => none
  | _ => none
def sPop (i : Nat) : SM := fun e => match e[i]? with
  | some (.bk n b) => match popD (.lst b.ps) [] with
    | some (.lst ps', d) => some (.nx, setBk n { b with s := d, ps := ps' } e)
    | _ => none
  | _ => none
section
variable {g : G0} {W : WX} {i : Nat}
end
section
variable {g : G0} {c : Ct} {i : Nat} {y : Str} {p p1 p2 p3 p4 p5 pos pos2 : Pos} {e : Expr} {m : M Vl}
end
end PD
namespace PD
variable [PD.TabL]
open PySem PySem.Spec PyProof.Rows L2
section
variable {K : PySem.W.Frag}
def ancX (H B : Hp) (x : Addr) : Anc := ⟨fun a => if a = x then none else noT H a, B, fun _ => none, fun _ => none⟩
/-- the promise of a book's __init__ -/
def spN (K : PySem.W.Frag) (s0 : D) : Sp := fun vs H Q _ => ∃ (B : Hp) (x C dx : Addr) (vt : V) (d : D), vs = [.ref x, vt] ∧ TabL.bkc = some C ∧ H x = some (.ins C dx []) ∧ B x = none ∧ SR K ⟨noT H, B, fun _ => none, fun _ => none⟩ B H [some (.ref x), some vt] [.em, .im d] ∧
  ∀ B' H' l v, Same B B' → SR K (ancX H B x) B' H' [some vt] [.im d] → H' x = some (.ins C dx (bkF vt v l)) → H' l = some (.lst []) → B' x = none → B' l = none → H l = none → l ≠ x → Rp K B' s0 v → Q .non H'
end
section
variable {g : G0}
end
end PD
namespace PD
variable [PD.TabL]
open PySem PySem.Spec PyProof.Rows L2
section
variable {K : PySem.W.Frag} {W : WX}
end
section
variable {g : G0} {c : Ct} {e : Expr} {pos p : Pos} {m n : SM} {s r : List Stmt} {st : Stmt}
end
section
variable {K : PySem.W.Frag}
theorem BkW.none {A : Anc} (h : ∀ n, A.bk n = .none) : BkW A := ⟨fun a ⟨n, x, l, e, _⟩ => by
  rw [h n] at e
  cases e⟩
end
section
variable (K : PySem.W.Frag)
end
section
variable {K : PySem.W.Frag}
/-- what is made of a terrace: a season s0 -/
def mNew (s0 : D) (m : M Vl) : M BkS := fun e => match m e with
  | some (.im d, e1) => some (⟨d, s0, []⟩, e1)
  | _ => none
def noBkB (n : Nat) (e : Env) : Bool := e.all fun sl => match sl with
  | .bk m _ => decide (m ≠ n)
  | _ => true
/-- x = .. -/
def sNewB (i n : Nat) (m : M BkS) : SM := fun e => match m (e.set i .em) with
  | some (b, e1) => if (noBkB n e1 && decide (10 ≤ n) && decide (i < e1.length)) = true then some (.nx, e1.set i (.bk n b)) else none
  | none => none
/-- x, y = .., .. -/
def sNewP (i j n : Nat) (m : M BkS) (m2 : M Vl) : SM := fun e => match m (e.set i .em) with
  | some (b, e1) => if (noBkB n e1 && decide (10 ≤ n)) = true then match bd m2 hb e1 with
      | some (r2, e2) => match gN j r2 e2 with
        | some (_, e3) => if i < e3.length then some (.nx, e3.set i (.bk n b)) else none
        | none => none
      | none => none
    else none
  | none => none
end
/-- the class of books stands in the text, and its __init__ gives s0 -/
structure NewI (g : G0) (x : Str) (k : Nat) (s0 : D) : Prop where
  ex : ∃ (C fI : Addr) (fd : FuncData) (ps : List Str), TabL.bkc = some C ∧ g.mg x = some (.ref C) ∧ Mk g.K C fI ∧ Binds g.K fd ps [] ∧ FnG g k fI fd ps (spN g.K s0)
section
variable {g : G0} {c : Ct}
variable {x y z : Str} {i j n k : Nat} {s0 : D} {e b : Expr} {m : M Vl} {mb : M BkS} {p px py pt pt2 pos : Pos} {kt k2 : Nat}
end
section
variable {K : PySem.W.Frag} {W : WX} {i : Nat}
end
section
variable {g : G0} {c : Ct} {i : Nat} {x y f : Str} {k kf : Nat} {F : Fs} {G : FsB} {e : Expr} {es : List Expr} {p pf apos pos cpos pos2 : Pos} {ms : M (List Vl)}
end
end PD
namespace PD
section
variable [PD.TabL]
open PySem PySem.Spec PyProof.Rows L2
structure DefQ (g : G0) (x : Str) (st : Stmt) (ps : List Str) : Prop where
  ex : ∃ (f : Addr) (fd : FuncData) (y q : Str), g.mg x = some (.ref f) ∧ Fun g.K y q st f fd ∧ Binds g.K fd ps []
section
variable {g : G0} {x : Str} {st : Stmt} {N ps : List Str} {sig : List Bool} {body : SM} {k : Nat}
structure NewAt (g : G0) (x qual : Str) (st : Stmt) (prm : Str) : Prop where
  ex : ∃ (C fI : Addr) (fd : FuncData), TabL.bkc = some C ∧ g.mg x = some (.ref C) ∧ Mk g.K C fI ∧ Fun g.K "__init__" qual st fI fd ∧ Binds g.K fd ["self", prm] []
end
section
variable {g : G0} {c : Ct} {x : Str}
end
def sRetZ (m : M Vl) : SM := fun e => match bd m (fun r => frz r.hold) e with
  | some (d, e1) => some (.rt (.im d), e1)
  | none => none
section
variable {K : PySem.W.Frag} {A : Anc}
end
end
open PySem PySem.Spec PyProof.Rows L2
end PD
namespace PD
variable [PD.TabL]
open PySem PySem.Spec PyProof.Rows L2
inductive Ns (K : PySem.W.Frag) (B : Hp) (A : Anc) (H : Hp) (p : Addr) : List (Key × D) → List (Key × V) → Prop
  | nil : Ns K B A H p [] []
  | cons {k : Key} {d : D} {q : Addr} {es : List (Key × D)} {kvs : List (Key × V)} : Cont K B d (H q) → B q = none → A.H0 q = none → q ≠ p → (∀ kv ∈ kvs, kv.2 ≠ .ref q ∧ kv.1 ≠ k) → Ns K B A H p es kvs → Ns K B A H p ((k, d) :: es) ((k, .ref q) :: kvs)
section
variable {K : PySem.W.Frag} {B B' H H' : Hp} {A : Anc} {p : Addr}
theorem Ns.keys {es : List (Key × D)} {kvs : List (Key × V)} (h : Ns K B A H p es kvs) : es.map (·.1) = kvs.map (·.1) := by
  induction h with
  | nil => rfl
  | cons _ _ _ _ _ _ ih => rw [List.map_cons, List.map_cons, ih]
theorem Ns.refs {es : List (Key × D)} {kvs : List (Key × V)} (h : Ns K B A H p es kvs) : ∀ kv ∈ kvs, ∃ q d, kv.2 = .ref q ∧ Cont K B d (H q) ∧ B q = none ∧ A.H0 q = none ∧ q ≠ p := by
  induction h with
  | nil => exact fun _ z => nomatch z
  | @cons k d q es kvs c b a n u t ih =>
    intro kv hkv
    rcases List.mem_cons.mp hkv with rfl | hkv
    · exact ⟨q, d, rfl, c, b, a, n⟩
    · exact ih kv hkv
theorem Ns.mono {es : List (Key × D)} {kvs : List (Key × V)} (h : Ns K B A H p es kvs) (s : Same B B') (k : ∀ q, (∃ kv ∈ kvs, kv.2 = .ref q) → H' q = H q ∧ B' q = none) : Ns K B' A H' p es kvs := by
  induction h with
  | nil => exact .nil
  | @cons k0 d q es kvs c b a n u t ih =>
    obtain ⟨h1, h2⟩ := k q ⟨_, List.mem_cons_self, rfl⟩
    exact .cons (by rw [h1]; exact c.mono s) h2 a n u (ih fun q' ⟨kv, hm, e⟩ => k q' ⟨kv, List.mem_cons_of_mem _ hm, e⟩)
theorem setmap_id {k : Key} {d' : D} : ∀ {es : List (Key × D)}, (∀ e ∈ es, e.1 ≠ k) → es.map (fun e => if e.1 = k then (e.1, d') else e) = es
  | [], _ => rfl
  | e :: es, h => by
    rw [List.map_cons, if_neg (h e List.mem_cons_self), setmap_id fun e' he => h e' (List.mem_cons_of_mem _ he)]
theorem Ns.esk {k : Key} {es : List (Key × D)} {kvs : List (Key × V)} (t : Ns K B A H p es kvs) (h : ∀ kv ∈ kvs, kv.1 ≠ k) : ∀ e ∈ es, e.1 ≠ k := fun e he z => by
  have hk : e.1 ∈ es.map (·.1) := List.mem_map_of_mem he
  rw [t.keys] at hk
  obtain ⟨kv, hm, e2⟩ := List.mem_map.mp hk
  exact h kv hm (e2.trans z)
theorem Ns.get {k : Key} {d : D} {es : List (Key × D)} {kvs : List (Key × V)} (h : Ns K B A H p es kvs) (e : getK es k = some d) :
    ∃ q, valV kvs k = some (.ref q) ∧ (∃ kv ∈ kvs, kv.2 = .ref q) ∧ Cont K B d (H q) ∧ B q = none ∧ A.H0 q = none ∧ q ≠ p ∧ ∀ o d', Cont K B d' (some o) → Ns K B A (upd H q o) p (es.map fun e => if e.1 = k then (e.1, d') else e) kvs := by
  induction h with
  | nil => simp [getK] at e
  | @cons k0 d0 q es kvs c b a n u t ih =>
    by_cases hk : k0 = k
    · subst hk
      have e2 : d0 = d := by simpa [getK] using e
      subst e2
      refine ⟨q, by simp [valV], ⟨_, List.mem_cons_self, rfl⟩, c, b, a, n, fun o d' c' => ?_⟩
      rw [List.map_cons, if_pos rfl, setmap_id (t.esk fun kv hm => (u kv hm).2)]
      exact .cons (by rw [upd_same]; exact c') b a n u (t.mono (Same.refl _) fun q' ⟨kv, hm, e'⟩ => by
        obtain ⟨q2, d2, e3, _, b2, _⟩ := t.refs kv hm
        rw [e'] at e3
        cases e3
        exact ⟨upd_ne fun z => (u kv hm).1 (by rw [e', z]), b2⟩)
    · have e2 : getK es k = some d := by
        unfold getK at e ⊢
        rw [List.find?_cons_of_neg (by simpa using hk)] at e
        exact e
      obtain ⟨q', h1, h2, h3, h4, h5, h6, h7⟩ := ih e2
      have hne : q ≠ q' := fun z => by
        obtain ⟨kv, hm, e3⟩ := h2
        exact (u kv hm).1 (by rw [e3, z])
      refine ⟨q', ?_, ?_, h3, h4, h5, h6, fun o d' c' => ?_⟩
      · unfold valV at h1 ⊢
        rw [List.find?_cons_of_neg (by simpa using hk)]
        exact h1
      · obtain ⟨kv, hm, e3⟩ := h2
        exact ⟨kv, List.mem_cons_of_mem _ hm, e3⟩
      · rw [List.map_cons, if_neg hk]
        exact .cons (by rw [upd_ne hne]; exact c) b a n u (h7 o d' c')
end
/-- slot i holds such a dict, known to nobody else -/
structure RGD (K : PySem.W.Frag) (A : Anc) (i : Nat) (p : Addr) (kvs : List (Key × V)) (B H : Hp) (σ : L2.St) (env : Env) (es : List (Key × D)) : Prop where
  hi : i < env.length
  ei : env[i]? = some .em
  base : SR K A B H σ env
  calm : ∀ (j : Nat) (sl : Sl), env[j]? = some sl → sl = .em ∨ ∃ d, sl = .im d
  vi : σ[i]? = some (some (.ref p))
  hp : H p = some (.dK kvs)
  bp : B p = none
  ap : A.H0 p = none
  ns : Ns K B A H p es kvs
section
variable {K : PySem.W.Frag} {A : Anc} {i : Nat} {p : Addr} {kvs : List (Key × V)} {B H : Hp} {σ : L2.St} {env : Env} {es : List (Key × D)}
/-- .. it is seen as frozen -/
def frD (i : Nat) (es : List (Key × D)) (e : Env) : Env := e.set i (.im (.dk es))
open Classical in
theorem RGD.frz (R : RGD K A i p kvs B H σ env es) : ∃ Bf, Same B Bf ∧ SR K ⟨noT H, Bf, fun _ => none, fun _ => none⟩ Bf H σ (frD i es env) := by
  let held : Addr → Prop := fun a => a = p ∨ ∃ kv ∈ kvs, kv.2 = V.ref a
  let Bf : Hp := fun a => if held a then H a else B a
  have hB : Same B Bf := fun a o e => by
    show (if held a then H a else B a) = some o
    split
    · exact R.base.same a o e
    · exact e
  have hH : Same Bf H := fun a o e => by
    have e : (if held a then H a else B a) = some o := e
    split at e
    · exact e
    · exact R.base.same a o e
  have rp : Rp K Bf (.dk es) (.ref p) := by
    refine .dk (kvs := kvs) ?_ R.ns.keys ?_
    · show (if held p then H p else B p) = _
      rw [if_pos (.inl rfl)]
      exact R.hp
    · have : ∀ {es' : List (Key × D)} {kvs' : List (Key × V)}, Ns K B A H p es' kvs' → (∀ kv ∈ kvs', kv ∈ kvs) → Rps K Bf (es'.map (·.2)) (kvs'.map (·.2)) := by
        intro es' kvs' h
        induction h with
        | nil => exact fun _ => .nil
        | @cons k d q es kvs' c b a n u t ih =>
          intro hm
          refine .cons (c.frozen hB ?_) (ih fun kv h => hm kv (List.mem_cons_of_mem _ h))
          show (if held q then H q else B q) = _
          rw [if_pos (.inr ⟨_, hm _ List.mem_cons_self, rfl⟩)]
      exact this R.ns fun _ h => h
  refine ⟨Bf, hB, ⟨by unfold frD; rw [List.length_set]; exact R.base.len, hH, fun j sl ov e1 e2 => ?_, fun j k q s1 s2 ne e1 e2 m1 _ _ _ => ?_, fun a o e _ => ⟨noT_some e, .inl rfl⟩, fun a ⟨j, h⟩ => (by cases h), fun a ⟨j, h⟩ => (by cases h), fun q hq => ⟨(R.base.tab q hq).1, ?_, noT_tab hq⟩⟩⟩
  · unfold frD at e1
    by_cases hj : i = j
    · subst hj
      rw [List.getElem?_set_self R.hi] at e1
      cases e1
      rw [R.vi] at e2
      cases e2
      exact .im rp
    · rw [List.getElem?_set_ne hj] at e1
      rcases R.calm j sl e1 with rfl | ⟨d, rfl⟩
      · exact .em
      · cases R.base.slot j _ ov e1 e2 with
        | im r => exact .im (r.mono hB)
  · unfold frD at e1
    by_cases hj : i = j
    · subst hj
      rw [List.getElem?_set_self R.hi] at e1
      cases e1
      cases m1
    · rw [List.getElem?_set_ne hj] at e1
      rcases R.calm j s1 e1 with rfl | ⟨d, rfl⟩ <;> cases m1
  · obtain ⟨ps, t1, _⟩ := (R.base.tab q hq).1
    show (if held q.1 then H q.1 else B q.1) = none
    rw [if_neg]
    · exact (R.base.tab q hq).2.1
    · rintro (z | ⟨kv, hm, e⟩)
      · rw [z, R.hp] at t1
        cases t1
      · obtain ⟨q2, d2, e3, c, _⟩ := R.ns.refs kv hm
        rw [e] at e3
        cases e3
        rw [t1] at c
        cases c
/-- .. with all tuples frozen -/
theorem RGD.tup (R : RGD K A i p kvs B H σ env es) : ∃ B', Same B B' ∧ RGD K A i p kvs B' H σ env es ∧ (∀ a ts, H a = some (HO.tup ts) → B' a = some (HO.tup ts)) ∧ ∀ a, B' a = B a ∨ ∃ ts, H a = some (HO.tup ts) := by
  obtain ⟨B', s, S', h1, h2⟩ := R.base.allTup
  refine ⟨B', s, ⟨R.hi, R.ei, S', R.calm, R.vi, R.hp, ?_, R.ap, R.ns.mono s fun q ⟨kv, hm, e⟩ => ⟨rfl, ?_⟩⟩, h1, h2⟩
  · rcases h2 p with z | ⟨ts, z⟩
    · rw [z]
      exact R.bp
    · rw [R.hp] at z
      cases z
  · obtain ⟨q2, d2, e3, c, b, _⟩ := R.ns.refs kv hm
    rw [e] at e3
    cases e3
    rcases h2 q with z | ⟨ts, z⟩
    · rw [z]
      exact b
    · rw [z] at c
      exact absurd rfl (c.nt ts)
theorem SR.pokeD {q : Addr} {o u : HO} (S : SR K A B H σ env) (calm : ∀ (j : Nat) (sl : Sl), env[j]? = some sl → sl = .em ∨ ∃ d, sl = .im d) (b : B q = none) (a : A.H0 q = none) (hq : H q = some u) (n1 : ∀ ps, u ≠ .tbl ps) (n2 : ∀ c x, u ≠ LamX.CodeO c x) : SR K A B (upd H q o) σ env := by
  refine ⟨S.len, fun c u e => ?_, fun j sl ov e1 e2 => ?_, S.inj, fun c u e n => ?_, fun c n => ?_, S.ioh, fun c hc => ⟨?_, (S.tab c hc).2⟩⟩
  · rw [upd_ne (ne_of_none e b)]
    exact S.same c u e
  · rcases calm j sl e1 with rfl | ⟨d, rfl⟩
    · exact .em
    · cases S.slot j _ ov e1 e2 with
      | im r => exact .im r
  · have ne : c ≠ q := fun z => by rw [z, a] at e; cases e
    rw [upd_ne ne]
    exact S.anc c u e n
  · obtain ⟨b1, u1, e1, nt⟩ := S.iob c n
    obtain ⟨o2, e2⟩ := S.ioh c n
    have ne : c ≠ q := fun z => by rw [z, a] at e2; cases e2
    rw [upd_ne ne]
    exact ⟨b1, u1, e1, nt⟩
  · exact tab_upd (S.tab c hc).1 (fun ps z => by rw [hq] at z; exact n1 ps (Option.some.inj z)) fun c2 x z => by rw [hq] at z; exact n2 c2 x (Option.some.inj z)
theorem RGD.at_ {k : Key} {d : D} (R : RGD K A i p kvs B H σ env es) (e : getK es k = some d) : ∃ q, valV kvs k = some (.ref q) ∧ Cont K B d (H q) ∧ ∀ o d', Cont K B d' (some o) → RGD K A i p kvs B (upd H q o) σ env (es.map fun e => if e.1 = k then (e.1, d') else e) := by
  obtain ⟨q, h1, h2, h3, h4, h5, h6, h7⟩ := R.ns.get e
  refine ⟨q, h1, h3, fun o d' c' => ?_⟩
  obtain ⟨u, hu⟩ := h3.some
  have nt := (by rw [hu] at h3; exact h3.ntab : (∀ ps, u ≠ .tbl ps) ∧ ∀ c q, u ≠ LamX.CodeO c q)
  exact ⟨R.hi, R.ei, R.base.pokeD R.calm h4 h5 hu nt.1 nt.2, R.calm, R.vi, by rw [upd_ne fun z => h6 z.symm]; exact R.hp, R.bp, R.ap, h7 o d' c'⟩
end
end PD
namespace PD
variable [PD.TabL]
open PySem PySem.Spec PyProof.Rows L2
abbrev DM := Env → List (Key × D) → Option (List (Key × D))
section
variable {K : PySem.W.Frag} {A : Anc} {i : Nat}
end
end PD
namespace PD
variable [PD.TabL]
open PySem PySem.Spec PyProof.Rows L2
/-- an item of the comprehension -/
structure It4 where
  k : Key
  d : D
  T : Addr
  q : Addr
section
variable {K : PySem.W.Frag}
end
end PD
namespace PD
variable [PD.TabL]
open PySem PySem.Spec PyProof.Rows L2
section
variable {K : PySem.W.Frag} {A : Anc} {i j : Nat} {p : Addr} {kvs : List (Key × V)} {B H : Hp} {σ : L2.St} {env : Env} {es : List (Key × D)}
end
section
variable {K : PySem.W.Frag} {A : Anc} {i : Nat} {lk : Option Key}
end
def spD (K : PySem.W.Frag) (F : List (Key × D) → Option (List (Key × D))) : Sp := fun vs H Q _ => ∃ (A : Anc) (B : Hp) (es es' : List (Key × D)) (v : V), vs = [v] ∧ A.H0 = noT H ∧ SR K A B H [some v] [.im (.kf es)] ∧ F es = some es' ∧
  ∀ B' H' p kvs, Same B B' → SR K A B' H' [some v] [.im (.kf es)] → H' p = some (.dK kvs) → B' p = none → A.H0 p = none → Ns K B' A H' p es' kvs → Q (.ref p) H'
structure FnD (g : G0) (x : Str) (k : Nat) (F : List (Key × D) → Option (List (Key × D))) : Prop where
  ex : ∃ (f : Addr) (fd : FuncData) (ps : List Str), g.mg x = some (.ref f) ∧ PySem.W.keepIn g.K (.ref f) = true ∧ Binds g.K fd ps [] ∧ FnG g k f fd ps (spD g.K F)
section
variable {K : PySem.W.Frag}
end
section
variable {g : G0} {c : Ct} {i : Nat} {lk : Option Key} {s : Stmt} {r : List Stmt} {m n : DM}
end
end PD
namespace PD
variable [PD.TabL]
open PySem PySem.Spec PyProof.Rows L2
section
variable {K : PySem.W.Frag} {A : Anc}
end
section
variable {g : G0} {c : Ct}
end
end PD
namespace PD
variable [PD.TabL]
open PySem PySem.Spec PyProof.Rows L2
end PD
namespace PD
variable [PD.TabL]
open PySem PySem.Spec PyProof.Rows L2
def bkO (e : Env) (i : Nat) : Option BkS := match e[i]? with
  | some (.bk _ b) => some b
  | _ => none
def bkNO (e : Env) (i : Nat) : Option (Nat × BkS) := match e[i]? with
  | some (.bk n b) => some (n, b)
  | _ => none
theorem setBk_nil {n : Nat} {b : BkS} : setBk n b [] = [] := rfl
theorem setBk_cons {n : Nat} {b : BkS} {x : Sl} {l : Env} : setBk n b (x :: l) = x.setBk n b :: setBk n b l := rfl
theorem setBk_em {n : Nat} {b : BkS} : Sl.setBk n b .em = .em := rfl
theorem setBk_im {n : Nat} {b : BkS} {d : D} : Sl.setBk n b (.im d) = .im d := rfl
theorem setBk_ow {n : Nat} {b : BkS} {d : D} : Sl.setBk n b (.ow d) = .ow d := rfl
theorem setBk_io {n j : Nat} {b : BkS} {d : D} : Sl.setBk n b (.io j d) = .io j d := rfl
theorem setBk_bk {n : Nat} {b b0 : BkS} : Sl.setBk n b (.bk n b0) = .bk n b := if_pos rfl
theorem insB0 {α : Type} {a : α} {l : List α} : insB 0 a l = a :: l := rfl
theorem insB1 {α : Type} {a x : α} {l : List α} : insB 1 a (x :: l) = x :: a :: l := rfl
theorem insB2 {α : Type} {a x y : α} {l : List α} : insB 2 a (x :: y :: l) = x :: y :: a :: l := rfl
theorem insB3 {α : Type} {a x y z : α} {l : List α} : insB 3 a (x :: y :: z :: l) = x :: y :: z :: a :: l := rfl
theorem isBk_bk {n : Nat} {b : BkS} : isBkS (some (.bk n b)) = true := rfl
section
variable {e : Env} {i j n : Nat} {m m2 ma mb : M Vl} {ms : M (List Vl)} {Q : Vl → Env → Prop} {P : Fl → Env → Prop}
theorem W_ckB {R : List Vl → Env → Prop} : @W _ (ckB i ms) e ⟨R⟩ = @WC (isBkS e[i]?) ⟨@W _ ms e ⟨R⟩⟩ := by
  unfold ckB
  simp only [W_eq, WC_eq]
  cases isBkS e[i]? with
  | true => rfl
  | false => rfl
theorem W_eCallR {F : FsR} : @W _ (eCallR F i ms) e ⟨Q⟩ = @W _ ms e ⟨fun rs e1 => @WO _ (cnts e1 rs) ⟨fun ds => @WO _ (bkO e1 i) ⟨fun b => @WC (decide (rs.length = F.n) && decide (F.pl ≤ F.n)) ⟨@WO _ (F.sem b ds) ⟨fun r =>
    @WC ((brIx e1 (List.replicate rs.length false) rs).isEmpty || r.nm) ⟨match r with
      | .im d => Q (.im d) e1
      | .fr d => Q (.fr d) e1
      | .bo _ => False⟩⟩⟩⟩⟩⟩ := by
  unfold eCallR bkO
  simp only [W_eq, WO_eq, WC_eq]
  cases ms e with
  | none => rfl
  | some p =>
    obtain ⟨rs, e1⟩ := p
    dsimp only
    cases cnts e1 rs with
    | none => rfl
    | some ds =>
      dsimp only
      cases e1[i]? with
      | none => rfl
      | some sl =>
        cases sl with
        | bk n b =>
          dsimp only
          cases (decide (rs.length = F.n) && decide (F.pl ≤ F.n)) with
          | false => rfl
          | true =>
            rw [if_pos rfl]
            dsimp only
            cases F.sem b ds with
            | none => rfl
            | some r =>
              dsimp only
              cases ((brIx e1 (List.replicate rs.length false) rs).isEmpty || r.nm) with
              | false => rfl
              | true =>
                rw [if_pos rfl]
                cases r <;> rfl
        | _ => rfl
theorem W_eCallB {F : FsB} : @W _ (eCallB F i ms) e ⟨Q⟩ = @W _ ms e ⟨fun rs e1 => @WO _ (cnts e1 rs) ⟨fun ds => @WO _ (bkNO e1 i) ⟨fun nb => @WC (ioAll e1 F.sig rs && decide (ioIx F.sig rs).Nodup && disj (ioIx F.sig rs) (brIx e1 F.sig rs) && decide (F.pl ≤ F.sig.length)) ⟨@WO _ (F.sem nb.2 ds) ⟨fun p =>
    @WC (((brIx e1 F.sig rs).isEmpty || (p.1.nmB && nmOut F.sig p.2.1)) && p.2.2.nm) ⟨@WO _ (some (setBk nb.1 p.2.2 (updE F.sig rs p.2.1 e1))) ⟨fun e2 => Q p.1 e2⟩⟩⟩⟩⟩⟩⟩ := by
  unfold eCallB bkNO
  simp only [W_eq, WO_eq, WC_eq]
  cases ms e with
  | none => rfl
  | some p =>
    obtain ⟨rs, e1⟩ := p
    dsimp only
    cases cnts e1 rs with
    | none => rfl
    | some ds =>
      dsimp only
      cases e1[i]? with
      | none => rfl
      | some sl =>
        cases sl with
        | bk n b =>
          dsimp only
          cases (ioAll e1 F.sig rs && decide (ioIx F.sig rs).Nodup && disj (ioIx F.sig rs) (brIx e1 F.sig rs) && decide (F.pl ≤ F.sig.length)) with
          | false => rfl
          | true =>
            rw [if_pos rfl]
            dsimp only
            cases F.sem b ds with
            | none => rfl
            | some r =>
              obtain ⟨r, ds', b'⟩ := r
              dsimp only
              cases (((brIx e1 F.sig rs).isEmpty || (r.nmB && nmOut F.sig ds')) && b'.nm) with
              | false => rfl
              | true => rfl
        | _ => rfl
theorem W_eFT : @W _ (eFT i) e ⟨Q⟩ = @WO _ (bkO e i) ⟨fun b => Q (.im b.t) e⟩ := by
  unfold eFT bkO
  simp only [W_eq, WO_eq]
  cases e[i]? with
  | none => rfl
  | some sl => cases sl <;> rfl
theorem W_eFS : @W _ (eFS i) e ⟨Q⟩ = @WO _ (bkO e i) ⟨fun b => Q (.im b.s) e⟩ := by
  unfold eFS bkO
  simp only [W_eq, WO_eq]
  cases e[i]? with
  | none => rfl
  | some sl => cases sl <;> rfl
theorem W_eP1 {f : List D → Option Vl} : @W _ (eP1 f i) e ⟨Q⟩ = @WO _ (bkO e i) ⟨fun b => @WO _ (f [.lst b.ps]) ⟨fun r => match r with
    | .im d => Q (.im d) e
    | _ => False⟩⟩ := by
  unfold eP1 bkO
  simp only [W_eq, WO_eq]
  cases e[i]? with
  | none => rfl
  | some sl =>
    cases sl with
    | bk n b =>
      dsimp only
      cases f [.lst b.ps] with
      | none => rfl
      | some r => cases r <;> rfl
    | _ => rfl
theorem W_sExpB : @W _ (sExpB m) e ⟨P⟩ = @W _ m e ⟨fun r e1 => match exV r with
    | some _ => P (.rt r) e1
    | none => match r with
      | .im _ => P .nx e1
      | _ => False⟩ := by
  unfold sExpB flB
  simp only [W_eq]
  cases m e with
  | none => rfl
  | some p =>
    obtain ⟨r, e1⟩ := p
    dsimp only
    cases exV r with
    | some x => rfl
    | none => cases r <;> rfl
theorem W_sRetB : @W _ (sRetB m) e ⟨P⟩ = @W _ m e ⟨fun r e1 => match exV r with
    | some _ => P (.rt r) e1
    | none => match r with
      | .im _ => P (.rt r) e1
      | _ => False⟩ := by
  unfold sRetB flB
  simp only [W_eq]
  cases m e with
  | none => rfl
  | some p =>
    obtain ⟨r, e1⟩ := p
    dsimp only
    cases exV r with
    | some x => rfl
    | none => cases r <;> rfl
theorem W_sSetB : @W _ (sSetB j m) e ⟨P⟩ = @W _ m e ⟨fun r e1 => match exV r with
    | some _ => P (.rt r) e1
    | none => match r with
      | .im d => @WO _ (setO e1 j (.im d)) ⟨fun e2 => P .nx e2⟩
      | _ => False⟩ := by
  unfold sSetB
  simp only [W_eq]
  cases m e with
  | none => rfl
  | some p =>
    obtain ⟨r, e1⟩ := p
    dsimp only
    cases exV r with
    | some x => rfl
    | none =>
      cases r with
      | im d =>
        dsimp only
        rw [WO_eq, ← setO_ok]
        by_cases h : j < e1.length
        · rw [if_pos h, if_pos h]
        · rw [if_neg h, if_neg h]
      | _ => rfl
theorem W_sRetZ : @W _ (sRetZ m) e ⟨P⟩ = @W _ m e ⟨fun r e0 => @W _ (frz r.hold) e0 ⟨fun d e1 => P (.rt (.im d)) e1⟩⟩ := by
  unfold sRetZ
  simp only [W_eq, bd]
  cases m e with
  | none => rfl
  | some p =>
    obtain ⟨r, e0⟩ := p
    dsimp only
    cases frz r.hold e0 <;> rfl
theorem W_sKeep : @W _ (sKeep i) e ⟨P⟩ = @WO _ (bkNO e i) ⟨fun nb => @WO _ (appendD (.lst nb.2.ps) [nb.2.s]) ⟨fun p => match p.1 with
    | .lst ps' => P .nx (setBk nb.1 ⟨nb.2.t, nb.2.s, ps'⟩ e)
    | _ => False⟩⟩ := by
  unfold sKeep bkNO
  simp only [W_eq, WO_eq]
  cases e[i]? with
  | none => rfl
  | some sl =>
    cases sl with
    | bk n b =>
      dsimp only
      cases appendD (.lst b.ps) [b.s] with
      | none => rfl
      | some p =>
        obtain ⟨d, x⟩ := p
        cases d <;> rfl
    | _ => rfl
theorem W_sSea : @W _ (sSea i m) e ⟨P⟩ = @W _ m e ⟨fun r e1 => match r with
    | .im d => @WO _ (bkNO e1 i) ⟨fun nb => P .nx (setBk nb.1 ⟨nb.2.t, d, nb.2.ps⟩ e1)⟩
    | _ => False⟩ := by
  unfold sSea bkNO
  simp only [W_eq, WO_eq]
  cases m e with
  | none => rfl
  | some p =>
    obtain ⟨r, e1⟩ := p
    cases r with
    | im d =>
      dsimp only
      cases e1[i]? with
      | none => rfl
      | some sl => cases sl <;> rfl
    | _ => rfl
theorem W_sPop : @W _ (sPop i) e ⟨P⟩ = @WO _ (bkNO e i) ⟨fun nb => @WO _ (popD (.lst nb.2.ps) []) ⟨fun p => match p.1 with
    | .lst ps' => P .nx (setBk nb.1 ⟨nb.2.t, p.2, ps'⟩ e)
    | _ => False⟩⟩ := by
  unfold sPop bkNO
  simp only [W_eq, WO_eq]
  cases e[i]? with
  | none => rfl
  | some sl =>
    cases sl with
    | bk n b =>
      dsimp only
      cases popD (.lst b.ps) [] with
      | none => rfl
      | some p =>
        obtain ⟨d, x⟩ := p
        cases d <;> rfl
    | _ => rfl
theorem W_eOpB {f : List D → Option Vl} : @W _ (eOpB f ma mb) e ⟨Q⟩ = @W _ ma e ⟨fun r e1 => match r with
    | .im d => @W _ mb e1 ⟨fun r2 e2 => @WO _ (cnt e2 r2.hold) ⟨fun d2 => @WO _ (f [d, d2]) ⟨fun r3 => match r3 with
      | .im d3 => Q (.im d3) e2
      | _ => False⟩⟩⟩
    | _ => False⟩ := by
  unfold eOpB
  simp only [W_eq, WO_eq]
  cases ma e with
  | none => rfl
  | some p =>
    obtain ⟨r, e1⟩ := p
    cases r with
    | im d =>
      dsimp only
      cases mb e1 with
      | none => rfl
      | some p2 =>
        obtain ⟨r2, e2⟩ := p2
        dsimp only
        cases cnt e2 r2.hold with
        | none => rfl
        | some d2 =>
          dsimp only
          cases f [d, d2] with
          | none => rfl
          | some r3 => cases r3 <;> rfl
    | _ => rfl
theorem W_mNew {s0 : D} {R : BkS → Env → Prop} : @W _ (mNew s0 m) e ⟨R⟩ = @W _ m e ⟨fun r e1 => match r with
    | .im d => R ⟨d, s0, []⟩ e1
    | _ => False⟩ := by
  unfold mNew
  simp only [W_eq]
  cases m e with
  | none => rfl
  | some p =>
    obtain ⟨r, e1⟩ := p
    cases r <;> rfl
theorem W_sNewB {mk : M BkS} : @W _ (sNewB i n mk) e ⟨P⟩ = @W _ mk (e.set i .em) ⟨fun b e1 => @WC (noBkB n e1 && decide (10 ≤ n)) ⟨@WO _ (setO e1 i (.bk n b)) ⟨fun e2 => P .nx e2⟩⟩⟩ := by
  unfold sNewB
  simp only [W_eq, WC_eq]
  cases mk (e.set i .em) with
  | none => rfl
  | some p =>
    obtain ⟨b, e1⟩ := p
    dsimp only
    cases hc : (noBkB n e1 && decide (10 ≤ n)) with
    | false => rfl
    | true =>
      dsimp only
      rw [WO_eq, ← setO_ok, Bool.true_and]
      by_cases h : i < e1.length
      · rw [if_pos h, if_pos (decide_eq_true h)]
      · rw [if_neg h, if_neg (by simpa using h)]
theorem W_sNewP {mk : M BkS} : @W _ (sNewP i j n mk m2) e ⟨P⟩ = @W _ mk (e.set i .em) ⟨fun b e1 => @WC (noBkB n e1 && decide (10 ≤ n)) ⟨@W _ m2 e1 ⟨fun r e2 => @W _ (hb r) e2 ⟨fun r2 e3 => @W _ (gN j r2) e3 ⟨fun _ e4 => @WO _ (setO e4 i (.bk n b)) ⟨fun e5 => P .nx e5⟩⟩⟩⟩⟩⟩ := by
  unfold sNewP
  simp only [W_eq, WC_eq, bd]
  cases mk (e.set i .em) with
  | none => rfl
  | some p =>
    obtain ⟨b, e1⟩ := p
    dsimp only
    cases hc : (noBkB n e1 && decide (10 ≤ n)) with
    | false => rfl
    | true =>
      rw [if_pos rfl]
      dsimp only
      cases m2 e1 with
      | none => rfl
      | some p2 =>
        obtain ⟨r, e2⟩ := p2
        dsimp only
        cases hb r e2 with
        | none => rfl
        | some p3 =>
          obtain ⟨r2, e3⟩ := p3
          dsimp only
          cases gN j r2 e3 with
          | none => rfl
          | some p4 =>
            obtain ⟨u, e4⟩ := p4
            dsimp only
            rw [WO_eq, ← setO_ok]
            by_cases h : i < e4.length
            · rw [if_pos h, if_pos h]
            · rw [if_neg h, if_neg h]
end
theorem WO_runR {k pl n : Nat} {body : SM} {b : BkS} {ds : List D} {K : Vl → Prop} : @WO _ (runR k pl n body b ds) ⟨K⟩ = @WC (decide (ds.length = k) && decide (pl ≤ k)) ⟨@WO _ (some (insB pl (Sl.bk 0 b) (ds.map Sl.im) ++ List.replicate (n - (k + 1)) .em)) ⟨fun e0 => @W _ body e0 ⟨fun fl e1 => match fl with
    | .nx => K (.im .non)
    | .rt r => @WO _ (retV e1 r) ⟨K⟩
    | .bk => False
    | .ct => False⟩⟩⟩ := by
  unfold runR
  by_cases h : ds.length = k ∧ pl ≤ k
  · rw [if_pos h]
    simp only [W_eq, WO_eq, WC_eq, h.1, h.2, decide_true, Bool.and_self]
    cases body (insB pl (Sl.bk 0 b) (ds.map Sl.im) ++ List.replicate (n - (k + 1)) Sl.em) with
    | none => rfl
    | some p =>
      obtain ⟨fl, e1⟩ := p
      cases fl <;> rfl
  · rw [if_neg h, WO_none]
    have : (decide (ds.length = k) && decide (pl ≤ k)) = false := by
      cases hd : decide (ds.length = k) with
      | false => rfl
      | true =>
        cases hd2 : decide (pl ≤ k) with
        | false => rfl
        | true => exact absurd ⟨of_decide_eq_true hd, of_decide_eq_true hd2⟩ h
    rw [this, WC_eq]
theorem WO_runB {sig : List Bool} {pl n : Nat} {body : SM} {b : BkS} {ds : List D} {K : Vl × List D × BkS → Prop} : @WO _ (runB sig pl n body b ds) ⟨K⟩ = @WC (decide (ds.length = sig.length) && decide (pl ≤ sig.length)) ⟨@WO _ (some (insB pl (Sl.bk 0 b) (mkE 0 sig ds) ++ List.replicate (n - (ds.length + 1)) .em)) ⟨fun e0 => @W _ body e0 ⟨fun fl e1 =>
    @WO _ (bkNO e1 pl) ⟨fun nb => @WC (decide (nb.1 = 0)) ⟨@WO _ (outE sig 0 (e1.eraseIdx pl) ds) ⟨fun o => match fl with
      | .nx => K (.im .non, o, nb.2)
      | .rt r => match exV r with
        | some _ => K (r, o, nb.2)
        | none => @WO _ (retV e1 r) ⟨fun r2 => match r2 with
          | .im d => K (.im d, o, nb.2)
          | _ => False⟩
      | .bk => False
      | .ct => False⟩⟩⟩⟩⟩⟩ := by
  unfold runB bkNO
  by_cases h : ds.length = sig.length ∧ pl ≤ sig.length
  · rw [if_pos h]
    simp only [W_eq, WO_eq, WC_eq, h.1, h.2, decide_true, Bool.and_self]
    cases body (insB pl (Sl.bk 0 b) (mkE 0 sig ds) ++ List.replicate (n - (sig.length + 1)) Sl.em) with
    | none => rfl
    | some p =>
      obtain ⟨fl, e1⟩ := p
      dsimp only
      cases e1[pl]? with
      | none => rfl
      | some sl =>
        cases sl with
        | bk m b' =>
          dsimp only
          by_cases hm : m = 0
          · rw [if_pos hm, decide_eq_true hm]
            dsimp only
            cases outE sig 0 (e1.eraseIdx pl) ds with
            | none => rfl
            | some o =>
              dsimp only
              cases fl with
              | nx => rfl
              | bk => rfl
              | ct => rfl
              | rt r =>
                dsimp only
                cases exV r with
                | some x => rfl
                | none =>
                  dsimp only
                  cases retV e1 r with
                  | none => rfl
                  | some r2 => cases r2 <;> rfl
          · rw [if_neg hm, decide_eq_false hm]
        | _ => rfl
  · rw [if_neg h, WO_none]
    have : (decide (ds.length = sig.length) && decide (pl ≤ sig.length)) = false := by
      cases hd : decide (ds.length = sig.length) with
      | false => rfl
      | true =>
        cases hd2 : decide (pl ≤ sig.length) with
        | false => rfl
        | true => exact absurd ⟨of_decide_eq_true hd, of_decide_eq_true hd2⟩ h
    rw [this, WC_eq]
end PD
namespace PD
variable [PD.TabL]
open PySem PySem.Spec PyProof.Rows L2
end PD
namespace PD
variable [PD.TabL]
open PySem PySem.Spec PyProof.Rows L2
/-- the module's own tuples are there -/
structure KtOk (K : PySem.W.Frag) : Prop where
  ex : ∀ p n, isK n = true → TabL.kt p = some n → ∃ o its m, K.lookup p = some o ∧ o.cls = .type "tuple" ∧ o.data = .seq its m ∧ Vals (n.map kV) its.toList
/-- the class of nets, and the module's tuples -/
structure NtI (g : G0) : Prop where
  ex : ∃ C, TabL.ntc = some (C, g.P, g.w) ∧ Cls g.K C ∧ NoAttr g.K C "widths" ∧ NoAttr g.K C "beside"
  kt : KtOk g.K
def ndD (n : List L2.Key) : D := if isK n = true then .kt n else .tup (n.map fun k => match k with
  | .inl i => .int i
  | .inr x => .str x)
def nodeD : D → Option (List L2.Key)
  | .kt n => if isK n = true then some n else none
  | .tup ks => match keysD ks with
    | some n => if isK n = true then none else some n
    | none => none
  | _ => none
def keyW : D → Option NestedKey
  | .tup [a, b] => match nodeD a, nodeD b with
    | some n, some m => some (k2 n m)
    | _, _ => none
  | _ => none
def lkW : List (NestedKey × Int) → NestedKey → Option Int
  | [], _ => none
  | (k, v) :: r, j => if k = j then some v else lkW r j
def lkBs : List (List L2.Key × List (List L2.Key)) → List L2.Key → Option (List (List L2.Key))
  | [], _ => none
  | (k, v) :: r, j => if k = j then some v else lkBs r j
def lkA : List (List L2.Key × Option (List L2.Key)) → List L2.Key → Option (Option (List L2.Key))
  | [], _ => none
  | (k, v) :: r, j => if k = j then some v else lkA r j
def KeyA (T : Hp) (k : NestedKey) (p : Addr) : Prop := KdAt T k p ∨ KAt T k p
theorem KeyA.mono {T T' : Hp} (s : TupS T T') {k : NestedKey} {p : Addr} (h : KeyA T k p) : KeyA T' k p := h.imp (fun h => h.mono s) fun h => h.mono s
section
variable {P : Program} {w : World} {H : Hp} {h : Heap}
end
section
variable {X : Cx} {pins : List (Addr × Obj)} {σ : L2.St} {H : Hp} {s : Shared} {a b : Addr} {xs : List (NestedKey × Addr × V)} {k : NestedKey} {A : Around} {E : Value → Shared → Prop}
end
section
variable {K : PySem.W.Frag} {A : Anc}
end
def nwF : Vl → Vl → Env → Option (Vl × Env)
  | .im (.nt (.net N)), .im d, e => match keyW d with
    | some k => match lkW N.W k with
      | some v => some (.im (.int v), e)
      | none => none
    | none => none
  | _, _, _ => none
def eNW (me mi : M Vl) : M Vl := bd me fun r => bd mi fun ri e => nwF r ri e
section
variable {K : PySem.W.Frag} {A : Anc}
end
theorem W_eNW {e : Env} {me mi : M Vl} {Q : Vl → Env → Prop} : @W _ (eNW me mi) e ⟨Q⟩ = @W _ me e ⟨fun r e1 => @W _ mi e1 ⟨fun ri e2 => @WO _ (nwF r ri e2) ⟨fun p => Q p.1 p.2⟩⟩⟩ := by
  unfold eNW
  simp only [W_eq, WO_eq, bd]
  cases me e with
  | none => rfl
  | some p =>
    obtain ⟨r, e1⟩ := p
    dsimp only
    cases mi e1 with
    | none => rfl
    | some q =>
      obtain ⟨ri, e2⟩ := q
      dsimp only
      cases nwF r ri e2 <;> rfl
def nbF : Vl → List Vl → Env → Option (Vl × Env)
  | .im (.nt (.net N)), [.im d, .im (.lst [])], e => match nodeD d with
    | some n => some (.im (.lst (((lkBs N.Bs n).getD []).map ndD)), e)
    | none => none
  | _, _, _ => none
def eNB (me : M Vl) (ms : M (List Vl)) : M Vl := bd me fun r => bd ms fun rs e => nbF r rs e
section
variable {K : PySem.W.Frag} {A : Anc}
end
theorem W_eNB {e : Env} {me : M Vl} {ms : M (List Vl)} {Q : Vl → Env → Prop} : @W _ (eNB me ms) e ⟨Q⟩ = @W _ me e ⟨fun r e1 => @W _ ms e1 ⟨fun rs e2 => @WO _ (nbF r rs e2) ⟨fun p => Q p.1 p.2⟩⟩⟩ := by
  unfold eNB
  simp only [W_eq, WO_eq, bd]
  cases me e with
  | none => rfl
  | some p =>
    obtain ⟨r, e1⟩ := p
    dsimp only
    cases ms e1 with
    | none => rfl
    | some q =>
      obtain ⟨rs, e2⟩ := q
      dsimp only
      cases nbF r rs e2 <;> rfl
section
variable {K : PySem.W.Frag} {B H : Hp}
end
end PD
namespace PD
variable [PD.TabL]
open PySem PySem.Spec PyProof.Rows L2
/-- where a method of nets stands -/
structure MtNAt (g : G0) (x qual : Str) (st : Stmt) (ps : List Str) : Prop where
  ex : ∃ (C f : Addr) (fd : FuncData), TabL.ntc = some (C, g.P, g.w) ∧ Cls g.K C ∧ Meth g.K C x f ∧ Fun g.K x qual st f fd ∧ Binds g.K fd ps []
structure MtF (g : G0) (x : Str) (k : Nat) (F : Fs) : Prop where
  ex : ∃ (C f : Addr) (fd : FuncData) (ps : List Str), TabL.ntc = some (C, g.P, g.w) ∧ Cls g.K C ∧ Meth g.K C x f ∧ Binds g.K fd ps [] ∧ FnG g k f fd ps (spF g.K F)
def eMethN (F : Fs) (i : Nat) (ms : M (List Vl)) : M Vl := fun e => match e[i]? with
  | some (.im (.nt (.net _))) => eCallF F (cA (eV i) ms) e
  | _ => none
section
variable {g : G0} {c : Ct} {e : Expr} {es : List Expr} {pos p apos : Pos} {ms : M (List Vl)} {i : Nat}
end
theorem W_eMethN {e : Env} {F : Fs} {i : Nat} {ms : M (List Vl)} {Q : Vl → Env → Prop} : @W _ (eMethN F i ms) e ⟨Q⟩ = @WO _ e[i]? ⟨fun sl => match sl with
  | .im (.nt (.net _)) => @W _ (eCallF F (cA (eV i) ms)) e ⟨Q⟩
  | _ => False⟩ := by
  unfold eMethN
  simp only [W_eq, WO_eq]
  cases e[i]? with
  | none => rfl
  | some sl =>
    cases sl with
    | im d =>
      cases d with
      | nt f => cases f <;> rfl
      | _ => rfl
    | _ => rfl
end PD
namespace PD
variable [PD.TabL]
open PySem PySem.Spec PyProof.Rows L2
/-- what a net's cells hold -/
def NtO : HO → Prop
  | .ins _ _ _ => True
  | .lst _ => True
  | .ext φ => ∃ P w a xs, HO.ext φ = WDc P w a xs
  | _ => False
theorem NtW.cell {G T : Hp} {x dx w b : Addr} {xs ys : List (NestedKey × Addr × V)} {ls : List Addr} {N : NetS} (h : NtW G T x dx w b xs ys ls N) : ∀ a ∈ x :: w :: b :: ls, ∃ o, G a = some o ∧ NtO o := fun a ha => by
  obtain ⟨⟨C, P, wo, h1, h2, h3, h4⟩, h5, h6, h7, h8, h9, h10, h11⟩ := h
  simp only [List.mem_cons] at ha
  rcases ha with rfl | rfl | rfl | ha
  · exact ⟨_, h2, trivial⟩
  · exact ⟨_, h3, P, wo, _, xs, rfl⟩
  · exact ⟨_, h4, P, wo, _, ys, rfl⟩
  · have hm : V.ref a ∈ ys.map (·.2.2) := by
      rw [h8]
      exact List.mem_map_of_mem ha
    obtain ⟨q, hq, e⟩ := List.mem_map.mp hm
    have key : ∀ {ps : List (List L2.Key × List (List L2.Key))} {qs : List (NestedKey × Addr × V)}, BesW G T ps qs → ∀ q ∈ qs, ∃ l vs, q.2.2 = .ref l ∧ G l = some (.lst vs) := by
      intro ps qs hp
      unfold BesW at hp
      induction hp with
      | nil => exact fun q hq => nomatch hq
      | cons h t ih =>
        intro q hq
        rcases List.mem_cons.mp hq with rfl | hq
        · obtain ⟨_, l, vs, e1, e2, _⟩ := h
          exact ⟨l, vs, e1, e2⟩
        · exact ih q hq
    obtain ⟨l, vs, e1, e2⟩ := key h11 q hq
    have e' : V.ref l = V.ref a := e1.symm.trans e
    cases e'
    exact ⟨_, e2, trivial⟩
theorem NtAt.cell {G T : Hp} {x : Addr} {f : Fo} {cells : List Addr} (h : NtAt G T x f cells) : ∀ a ∈ cells, ∃ o, G a = some o ∧ NtO o := by
  cases f with
  | net N =>
    obtain ⟨dx, w, b, xs, ys, ls, h, rfl⟩ := h
    exact h.cell
  | ah es =>
    obtain ⟨C, P, wo, zs, h1, h2, h3, h4, rfl⟩ := h
    intro a ha
    rw [List.mem_singleton.mp ha]
    exact ⟨_, h2, P, wo, _, zs, rfl⟩
/-- the net N stands at x, its cells are nobody else's -/
structure NtOk (A : Anc) (B : Hp) (x : Addr) (N : Fo) (cells : List Addr) : Prop where
  at_ : NtAt A.H0 B x N cells
  io : ∀ a ∈ cells, ¬ A.isIo a
  b0 : ∀ a ∈ cells, A.B0 a = none
  bk : ∀ n, A.bk n = none
theorem NtOk.mono {A : Anc} {B B' : Hp} {x : Addr} {N : Fo} {cells : List Addr} (h : NtOk A B x N cells) (s : Same B B') : NtOk A B' x N cells := ⟨h.at_.mono (fun _ _ _ e => e) (Same.tupS s), h.io, h.b0, h.bk⟩
/-- how the anchor moves on -/
structure NX (A A' : Anc) (c c' : List Addr) : Prop where
  io : A'.io = A.io
  bk : A'.bk = A.bk
  old : ∀ a o, A.H0 a = some o → a ∉ c → A'.H0 a = some o ∧ A'.B0 a = A.B0 a
  new : ∀ a ∈ c', a ∈ c ∨ A.H0 a = none
  keep : ∀ a ∈ c, a ∈ c'
  has : ∀ a ∈ c', ∃ o, A'.H0 a = some o ∧ NtO o
theorem NX.dom {A A' : Anc} {c c' : List Addr} (h : NX A A' c c') {a : Addr} (z : A'.H0 a = none) : A.H0 a = none := by
  cases e : A.H0 a with
  | none => rfl
  | some o =>
    by_cases q : a ∈ c
    · obtain ⟨o, ho, _⟩ := h.has a (h.keep a q)
      rw [z] at ho
      cases ho
    · rw [(h.old a o e q).1] at z
      cases z
theorem NX.trans {A A' A2 : Anc} {c c' c2 : List Addr} (h : NX A A' c c') (h' : NX A' A2 c' c2) : NX A A2 c c2 := by
  refine ⟨h'.io.trans h.io, h'.bk.trans h.bk, fun a o e n => ?_, fun a z => ?_, fun a z => h'.keep a (h.keep a z), h'.has⟩
  · obtain ⟨e1, e2⟩ := h.old a o e n
    have n' : a ∉ c' := fun z => by
      rcases h.new a z with q | q
      · exact n q
      · rw [e] at q
        cases q
    obtain ⟨e3, e4⟩ := h'.old a o e1 n'
    exact ⟨e3, e4.trans e2⟩
  · rcases h'.new a z with q | q
    · exact h.new a q
    · exact .inr (h.dom q)
theorem NtOk.refl {A : Anc} {B : Hp} {x : Addr} {N : Fo} {cells : List Addr} (h : NtOk A B x N cells) : NX A A cells cells := ⟨rfl, rfl, fun a o e n => ⟨e, rfl⟩, fun a z => .inl z, fun a z => z, h.at_.cell⟩
def Anc.net (A : Anc) (cells : List Addr) (G : Hp) : Anc := ⟨fun a => if a ∈ cells then G a else A.H0 a, fun a => if a ∈ cells then none else A.B0 a, A.io, A.bk⟩
section
variable {K : PySem.W.Frag} {A A' : Anc} {B H H' : Hp} {σ : L2.St} {env : Env} {x : Addr} {N N' : Fo} {cells cells' : List Addr}
end
end PD
namespace PD
variable [PD.TabL]
open PySem PySem.Spec PyProof.Rows L2
def SV (K : PySem.W.Frag) (A0 : Anc) (c0 : List Addr) (B0 : Hp) (i : Nat) (x : Addr) (σ : L2.St) (H : Hp) (env : Env) (N : Fo) : Prop := ∃ (A : Anc) (B : Hp) (cells : List Addr), NX A0 A c0 cells ∧ NtOk A B x N cells ∧ Same B0 B ∧ SR K A B H σ env ∧ env[i]? = some .em ∧ σ[i]? = some (some (.ref x))
abbrev SVM := Env → Fo → Option (Env × Fo)
def isEm : Option Sl → Bool
  | some .em => true
  | _ => false
/-- where the slot stays untold -/
def gd {α : Type} (i : Nat) (m : M α) : M α := fun e => match m e with
  | some (u, e') => if isEm e'[i]? = true then some (u, e') else none
  | none => none
section
variable {K : PySem.W.Frag} {A0 : Anc} {c0 : List Addr} {B0 B1 : Hp} {i : Nat} {x : Addr} {σ : L2.St} {H : Hp} {env : Env} {N : Fo}
theorem SV.base (s : Same B0 B1) (h : SV K A0 c0 B1 i x σ H env N) : SV K A0 c0 B0 i x σ H env N := by
  obtain ⟨A, B, cells, h1, h2, h3, h4⟩ := h
  exact ⟨A, B, cells, h1, h2, s.trans h3, h4⟩
def nNil : SVM := fun e N => some (e, N)
def nSeq (m n : SVM) : SVM := fun e N => match m e N with
  | some (e', N') => n e' N'
  | none => none
abbrev SVT := Env → Fo → Option (Bool × Env)
def nIf (c : SVT) (m n : SVM) : SVM := fun e N => match c e N with
  | some (b, e1) => if b = true then m e1 N else n e1 N
  | none => none
/-- a statement that has nothing to do with the net -/
def nLift (i : Nat) (m : SM) : SVM := fun e N => match m e with
  | some (.nx, e') => if isEm e'[i]? = true then some (e', N) else none
  | _ => none
def forN (g : Vl → M Unit) (b : SVM) : List D → SVM
  | [], e, N => some (e, N)
  | d :: ds, e, N => match g (.im d) e with
    | none => none
    | some (_, e1) => match b e1 N with
      | some (e2, N2) => forN g b ds e2 N2
      | none => none
def nFor (i : Nat) (mi : M (List D)) (g : Vl → M Unit) (b : SVM) : SVM := fun e N => match gd i mi e with
  | some (ds, e1) => forN (fun v => gd i (g v)) b ds e1 N
  | none => none
def nTst (i : Nat) (c : M Bool) : SVT := fun e _ => gd i c e
def nAndT (c d : SVT) : SVT := fun e N => match c e N with
  | some (true, e1) => d e1 N
  | some (false, e1) => some (false, e1)
  | none => none
def slNm : Sl → Bool
  | .em => true
  | .im d => d.nm
  | .ow d => d.nmC
  | .io _ d => d.nmC
  | .bk _ _ => false
def isNt : Option Sl → Bool
  | some (.im (.nt _)) => true
  | _ => false
def isIm : Sl → Bool
  | .im _ => true
  | _ => false
/-- the slots behind it: the net's own untold; what was frozen and stays; what has no list in it -/
def thE (i : Nat) (V : List Nat) : Nat → Env → Env → Option Env
  | _, _, [] => some []
  | _, [], _ :: _ => none
  | k, s :: e, s1 :: e1 => match thE i V (k + 1) e e1 with
    | some r => if k = i then some (.em :: r) else if (!V.contains k && isIm s) = true then some (s :: r) else if slNm s1 = true then some (s1 :: r) else none
    | none => none
def nFrz (i : Nat) (V : List Nat) (m : SM) : SVM := fun e N => match m (e.set i (.im (.nt N))) with
  | some (.nx, e1) => match thE i V 0 e e1 with
    | some e2 => if (isNt e1[i]? && isEm e2[i]?) = true then some (e2, N) else none
    | none => none
  | _ => none
end
section
variable (g : G0) (c : Ct) (i : Nat)
end
section
variable {g : G0} {c : Ct} {i : Nat} {V : List Nat} {e : Expr} {pos : Pos} {m n : SVM} {mt : M Bool} {ms : SM} {s : Stmt} {ss r : List Stmt}
end
end PD
namespace PD
variable [PD.TabL]
open PySem PySem.Spec PyProof.Rows L2
def putN (W : List (NestedKey × Int)) (k : NestedKey) (v : Int) : List (NestedKey × Int) := if (lkW W k).isSome = true then W.map fun e => if e.1 = k then (e.1, v) else e else W ++ [(k, v)]
def putA (es : List (List L2.Key × Option (List L2.Key))) (n : List L2.Key) (o : Option (List L2.Key)) : List (List L2.Key × Option (List L2.Key)) := if (lkA es n).isSome = true then es.map fun e => if e.1 = n then (e.1, o) else e else es ++ [(n, o)]
section
variable {X : Cx} {pins : List (Addr × Obj)} {σ : L2.St} {H : Hp} {s : Shared} {a b : Addr} {xs : List (NestedKey × Addr × V)} {k : NestedKey} {v : V}
end
end PD
namespace PD
variable [PD.TabL]
open PySem PySem.Spec PyProof.Rows L2
def NetS.putW (N : NetS) (k : NestedKey) (v : Int) : NetS := ⟨putN N.W k v, N.Bs⟩
theorem SR.tup {K : PySem.W.Frag} {A : Anc} {B H : Hp} {σ : L2.St} {env : Env} (S : SR K A B H σ env) : TupS B H := fun a ts z => S.same a _ z
theorem TupS.trans {T1 T2 T3 : Hp} (h : TupS T1 T2) (h' : TupS T2 T3) : TupS T1 T3 := fun a ts e => h' a ts (h a ts e)
section
variable {K : PySem.W.Frag} {A0 : Anc} {c0 : List Addr} {B0 : Hp} {i : Nat} {x : Addr} {σ : L2.St} {H : Hp} {env : Env} {C : Addr} {P : Program} {w : World}
def nKV (i : Nat) (e : Env) (N : NetS) (rk rv : Vl) : Option (Env × Fo) := match rk, rv with
  | .im d, .im (.int n) => match keyW d with
    | some k => if (isEm e[i]? && lessL N.W.length) = true then some (e, .net (N.putW k n)) else none
    | none => none
  | _, _ => none
/-- self.widths[k] = v -/
def nPut (i : Nat) (mk mv : M Vl) : SVM := fun e f => match f with
  | .net N => match mv e with
    | some (rv, e1) => match mk e1 with
      | some (rk, e2) => nKV i e2 N rk rv
      | none => none
    | none => none
  | _ => none
/-- self.widths[k] op= v -/
def nAug (i : Nat) (f : Int → Int → Int) (mk mv : M Vl) : SVM := fun e g => match g with
  | .net N => match mk e with
    | some (.im d, e1) => match keyW d with
      | some k => match lkW N.W k with
        | some a => match mv e1 with
          | some (.im (.int n), e2) => nKV i e2 N (.im d) (.im (.int (f a n)))
          | _ => none
        | none => none
      | none => none
    | _ => none
  | _ => none
/-- self.widths.setdefault(k, v) -/
def nSetd (i : Nat) (mk mv : M Vl) : SVM := fun e g => match g with
  | .net N => match mk e with
    | some (.im d, e1) => match mv e1 with
      | some (rv, e2) => match keyW d with
        | some k => match lkW N.W k, rv with
          | some _, .im (.int _) => if (isEm e2[i]? && lessL N.W.length) = true then some (e2, .net N) else none
          | none, _ => nKV i e2 N (.im d) rv
          | _, _ => none
        | none => none
      | none => none
    | _ => none
  | _ => none
end
end PD
namespace PD
variable [PD.TabL]
open PySem PySem.Spec PyProof.Rows L2
def addB : List (List L2.Key × List (List L2.Key)) → List L2.Key → List L2.Key → List (List L2.Key × List (List L2.Key))
  | [], n, m => [(n, [m])]
  | (k, v) :: r, n, m => if k = n then (k, v ++ [m]) :: r else (k, v) :: addB r n m
def NetS.add (N : NetS) (n m : List L2.Key) : NetS := ⟨N.W, addB N.Bs n m⟩
def bsLen (Bs : List (List L2.Key × List (List L2.Key))) (n : List L2.Key) : Nat := ((lkBs Bs n).getD []).length
section
variable {G T : Hp}
end
def nBes (i : Nat) (mk mo : M Vl) : SVM := fun e g => match g with
  | .net N => match mk e with
    | some (.im dk, e1) => match mo e1 with
      | some (.im dm, e2) => match nodeD dk, nodeD dm with
        | some n, some m => if (isEm e2[i]? && isEm e1[i]? && lessL N.Bs.length && lessL (bsLen N.Bs n)) = true then some (e2, .net (N.add n m)) else none
        | _, _ => none
      | _ => none
    | _ => none
  | _ => none
section
variable {K : PySem.W.Frag} {A0 : Anc} {c0 : List Addr} {B0 : Hp} {i : Nat} {x : Addr} {σ : L2.St} {H : Hp} {env : Env} {C : Addr} {P : Program} {w : World}
end
end PD
namespace PD
variable [PD.TabL]
open PySem PySem.Spec PyProof.Rows L2
structure FsW where
  sem : NetS → List D → Option (Vl × NetS)
  n : Nat
def spW (K : PySem.W.Frag) (F : FsW) : Sp := fun vs H Q _ => ∃ (A : Anc) (B : Hp) (x : Addr) (N N' : NetS) (cells : List Addr) (ds : List D) (r : Vl) (us : List V), A.H0 = noT H ∧ A.B0 = B ∧ (∀ j, A.io j = none) ∧ NtOk A B x (.net N) cells ∧ vs = .ref x :: us ∧ SR K A B H (vs.map some) (.em :: ds.map .im) ∧ ds.length = F.n ∧ F.sem N ds = some (r, N') ∧
  ∀ A' B' H' v cells', NX A A' cells cells' → NtOk A' B' x (.net N') cells' → Same B B' → VRp K A' B' H' (vs.map some) (.em :: ds.map .im) r v → Q v H'
section
variable {K : PySem.W.Frag} {A A' : Anc} {B H : Hp} {σ : L2.St} {env : Env} {x : Addr} {N N' : NetS} {cells cells' : List Addr}
end
def noBo : Vl → Bool
  | .bo _ => false
  | _ => true
/-- a call of such a method: the value, the net behind it -/
def cW (i : Nat) (F : FsW) (rs : List Vl) (e : Env) (f : Fo) : Option (Vl × Fo) := match f, cnts e rs with
  | .net N, some ds => if (isEm e[i]? && (brIx e (List.replicate rs.length false) rs).isEmpty && decide (rs.length = F.n)) = true then match F.sem N ds with
      | some (r, N') => if noBo r = true then some (r, .net N') else none
      | none => none
    else none
  | _, _ => none
/-- streams.m(..) as a statement -/
def nCallW (i : Nat) (F : FsW) (ms : M (List Vl)) : SVM := fun e N => match ms e with
  | some (rs, e1) => match cW i F rs e1 N with
    | some (_, N') => some (e1, N')
    | none => none
  | none => none
/-- name = streams.m(..) -/
def nSetW (i j : Nat) (F : FsW) (ms : M (List Vl)) : SVM := fun e N => match ms e with
  | some (rs, e1) => match cW i F rs e1 N with
    | some (r, N') => match gN j r e1 with
      | some (_, e2) => if isEm e2[i]? = true then some (e2, N') else none
      | none => none
    | none => none
  | none => none
section
variable {K : PySem.W.Frag} {i : Nat} {F : FsW} {ms : M (List Vl)} {t : TA} {C : Addr} {P : Program} {w : World} {m : Str}
end
end PD
namespace PD
variable [PD.TabL]
open PySem PySem.Spec PyProof.Rows L2
def isOw : Option Sl → Bool
  | some (.ow _) => true
  | _ => false
def isImO : Option Sl → Bool
  | some (.im _) => true
  | _ => false
def nRet (i j : Nat) : SVM := fun e N => if (isOw e[j]? || isImO e[j]? || j == i) = true then some (e, N) else none
section
variable {K : PySem.W.Frag} {i j : Nat}
end
structure MtW (g : G0) (x : Str) (k : Nat) (F : FsW) : Prop where
  ex : ∃ (C f : Addr) (fd : FuncData) (ps : List Str), TabL.ntc = some (C, g.P, g.w) ∧ Cls g.K C ∧ Meth g.K C x f ∧ Binds g.K fd ps [] ∧ FnG g k f fd ps (spW g.K F)
section
variable {K : PySem.W.Frag} {A : Anc} {B H : Hp} {vs : List V} {ds : List D} {x : Addr} {us : List V}
end
section
variable {g : G0} {c : Ct} {i j : Nat} {y : Str} {ek ev e : Expr} {es : List Expr} {p ap sp pos apos p2 p3 : Pos} {mk mv : M Vl} {ms : M (List Vl)}
end
end PD
namespace PD
variable [PD.TabL]
open PySem PySem.Spec PyProof.Rows L2
/-- the promise of a net's __init__ -/
def spI0 (P : Program) (w : World) : Sp := fun vs H Q _ => ∃ (x C dx : Addr), vs = [.ref x] ∧ TabL.ntc = some (C, P, w) ∧ H x = some (.ins C dx []) ∧
  ∀ H' wd b, H wd = none → H b = none → wd ≠ b → (∀ a o, H a = some o → a ≠ x → H' a = some o) → H' x = some (.ins C dx [("widths", .ref wd), ("beside", .ref b)]) → H' wd = some (WDc P w wd []) → H' b = some (WDc P w b []) → Q .non H'
structure NewNAt (g : G0) (x qual : Str) (st : Stmt) : Prop where
  ex : ∃ (C fI : Addr) (fd : FuncData), TabL.ntc = some (C, g.P, g.w) ∧ g.mg x = some (.ref C) ∧ Mk g.K C fI ∧ Fun g.K "__init__" qual st fI fd ∧ Binds g.K fd ["self"] []
structure NewN (g : G0) (x : Str) (k : Nat) : Prop where
  ex : ∃ (C fI : Addr) (fd : FuncData) (ps : List Str), TabL.ntc = some (C, g.P, g.w) ∧ g.mg x = some (.ref C) ∧ Mk g.K C fI ∧ Binds g.K fd ps [] ∧ FnG g k fI fd ps (spI0 g.P g.w)
section
variable {K : PySem.W.Frag} {A : Anc} {B H : Hp} {σ : L2.St} {env : Env}
end
structure FsS where
  sem : List D → Option Fo
  n : Nat
def spS (K : PySem.W.Frag) (F : FsS) : Sp := fun vs H Q _ => ∃ (A : Anc) (B : Hp) (N : Fo) (ds : List D), A.H0 = noT H ∧ A.B0 = B ∧ (∀ j, A.io j = none) ∧ (∀ n, A.bk n = none) ∧ SR K A B H (vs.map some) (ds.map .im) ∧ ds.length = F.n ∧ F.sem ds = some N ∧
  ∀ A' B' H' x cells, NX A A' [] cells → NtOk A' B' x N cells → Same B B' → SR K A' B' H' (vs.map some) (ds.map .im) → Q (.ref x) H'
structure FnS (g : G0) (x : Str) (k : Nat) (F : FsS) : Prop where
  ex : ∃ (f : Addr) (fd : FuncData) (ps : List Str), g.mg x = some (.ref f) ∧ PySem.W.keepIn g.K (.ref f) = true ∧ Binds g.K fd ps [] ∧ FnG g k f fd ps (spS g.K F)
section
variable {K : PySem.W.Frag} {A : Anc} {B H : Hp} {σ : L2.St} {env : Env}
end
end PD
namespace PD
variable [PD.TabL]
open PySem PySem.Spec PyProof.Rows L2
structure MtS (g : G0) (x : Str) (k : Nat) (F : FsS) : Prop where
  ex : ∃ (C f : Addr) (fd : FuncData) (ps : List Str), TabL.ntc = some (C, g.P, g.w) ∧ Cls g.K C ∧ Meth g.K C x f ∧ Binds g.K fd ps [] ∧ FnG g k f fd ps (spS g.K F)
section
variable {K : PySem.W.Frag} {A : Anc} {B H : Hp} {σ τ : L2.St} {env pe : Env}
end
def eMethS (F : FsS) (i : Nat) (ms : M (List Vl)) : M Vl := fun e => match e[i]? with
  | some (.im (.nt (.net _))) => match (cA (eV i) ms) e with
    | some (rs, e1) => match cnts e1 rs with
      | some ds => if ((brIx e1 (List.replicate rs.length false) rs).isEmpty && decide (rs.length = F.n)) = true then match F.sem ds with
          | some f => some (.im (.nt f), e1)
          | none => none
        else none
      | none => none
    | none => none
  | _ => none
section
variable {K : PySem.W.Frag} {A : Anc}
end
section
variable {g : G0} {c : Ct} {e : Expr} {es : List Expr} {pos p apos : Pos} {ms : M (List Vl)} {i : Nat}
end
section
variable {K : PySem.W.Frag} {A : Anc} {B H : Hp} {σ : L2.St} {env : Env}
end
/-- ahead[there] = here -/
def nAhPut (i : Nat) (mk mv : M Vl) : SVM := fun e f => match f with
  | .ah es => match mv e with
    | some (.im dv, e1) => match mk e1 with
      | some (.im dk, e2) => match nodeD dv, nodeD dk with
        | some m, some n => if (isEm e2[i]? && isEm e1[i]? && lessL es.length) = true then some (e2, .ah (putA es n (some m))) else none
        | _, _ => none
      | _ => none
    | _ => none
  | _ => none
/-- k not in ahead -/
def nNin (i : Nat) (mk : M Vl) : SVT := fun e f => match f, mk e with
  | .ah es, some (.im dk, e1) => match nodeD dk with
    | some n => if isEm e1[i]? = true then some (!(lkA es n).isSome, e1) else none
    | none => none
  | _, _ => none
section
variable {K : PySem.W.Frag} {i : Nat} {C : Addr} {P : Program} {w : World}
end
section
variable {g : G0} {c : Ct} {i : Nat} {y : Str} {ek ev e : Expr} {es : List Expr} {p ap sp pos apos p2 p3 : Pos} {mk mv : M Vl}
end
end PD
namespace PD
variable [PD.TabL]
open PySem PySem.Spec PyProof.Rows L2
section
variable {K : PySem.W.Frag} {A A' : Anc}
end
section
variable {g : G0} {c : Ct}
end
end PD
namespace PD
variable [PD.TabL]
open PySem PySem.Spec PyProof.Rows L2
section
variable {K : PySem.W.Frag} {A : Anc} {V : List Nat}
end
section
variable {g : G0} {c : Ct} {a : Expr} {m : M Vl} {pos pos' : Pos} {V : List Nat}
end
end PD
namespace PD
open PySem PySem.Spec PyProof.Rows L2
@[reducible] def tabN (cs : List (Addr × Addr × Str)) (C : Addr) (P : Program) (w : World) (kt : Addr → Option (List L2.Key)) : TabL := ⟨cs.map fun p => p.2, fun _ => none, none, some (C, P, w), kt⟩
end PD
namespace PD
variable [PD.TabL]
open PySem PySem.Spec PyProof.Rows L2
class K3 where
  run : Env → Fo → Prop
class KT where
  run : Bool → Env → Prop
def WV (m : SVM) (e : Env) (N : Fo) [K : K3] : Prop := ∃ e' N', m e N = some (e', N') ∧ K.run e' N'
def WVT (m : SVT) (e : Env) (N : Fo) [K : KT] : Prop := ∃ b e', m e N = some (b, e') ∧ K.run b e'
def nxV : Fl → Prop → Prop
  | .nx, p => p
  | _, _ => False
theorem nxV_nx {p : Prop} : nxV .nx p = p := rfl
theorem isEm_em : isEm (some .em) = true := rfl
theorem isNt_nt {f : Fo} : isNt (some (.im (.nt f))) = true := rfl
section
variable {e : Env} {N : Fo} {i : Nat} {Q : Env → Fo → Prop}
theorem WV_eq {m : SVM} : @WV m e N ⟨Q⟩ = (match m e N with | some p => Q p.1 p.2 | none => False) := by
  unfold WV
  cases h : m e N with
  | none => simp
  | some p => exact propext ⟨fun ⟨a, e', h1, h2⟩ => by cases h1; exact h2, fun h => ⟨_, _, rfl, h⟩⟩
theorem WVT_eq {m : SVT} {Q : Bool → Env → Prop} : @WVT m e N ⟨Q⟩ = (match m e N with | some p => Q p.1 p.2 | none => False) := by
  unfold WVT
  cases h : m e N with
  | none => simp
  | some p => exact propext ⟨fun ⟨a, e', h1, h2⟩ => by cases h1; exact h2, fun h => ⟨_, _, rfl, h⟩⟩
theorem WV_nNil : @WV nNil e N ⟨Q⟩ = Q e N := WV_eq
theorem WV_nSeq {m n : SVM} : @WV (nSeq m n) e N ⟨Q⟩ = @WV m e N ⟨fun e1 N1 => @WV n e1 N1 ⟨Q⟩⟩ := by
  simp only [WV_eq, nSeq]
  cases m e N <;> rfl
theorem WV_nIf {c : SVT} {m n : SVM} : @WV (nIf c m n) e N ⟨Q⟩ = @WVT c e N ⟨fun b e1 => @WB b ⟨@WV m e1 N ⟨Q⟩, @WV n e1 N ⟨Q⟩⟩⟩ := by
  simp only [WV_eq, WVT_eq, nIf]
  cases c e N with
  | none => rfl
  | some p =>
    obtain ⟨b, e1⟩ := p
    cases b <;> simp [WB, WV_eq]
theorem WVT_nTst {c : M Bool} {Q : Bool → Env → Prop} : @WVT (nTst i c) e N ⟨Q⟩ = @W _ c e ⟨fun b e1 => @WC (isEm e1[i]?) ⟨Q b e1⟩⟩ := by
  simp only [W_eq, WVT_eq, nTst, gd]
  cases c e with
  | none => rfl
  | some p =>
    obtain ⟨b, e1⟩ := p
    dsimp only
    cases isEm e1[i]? <;> simp [WC]
theorem WVT_nAndT {c d : SVT} {Q : Bool → Env → Prop} : @WVT (nAndT c d) e N ⟨Q⟩ = @WVT c e N ⟨fun b e1 => @WB b ⟨@WVT d e1 N ⟨Q⟩, Q false e1⟩⟩ := by
  simp only [WVT_eq, nAndT]
  cases c e N with
  | none => rfl
  | some p =>
    obtain ⟨b, e1⟩ := p
    cases b <;> simp [WB, WVT_eq]
theorem WV_nLift {m : SM} : @WV (nLift i m) e N ⟨Q⟩ = @W _ m e ⟨fun fl e1 => nxV fl (@WC (isEm e1[i]?) ⟨Q e1 N⟩)⟩ := by
  simp only [W_eq, WV_eq, nLift]
  cases m e with
  | none => rfl
  | some p =>
    obtain ⟨fl, e1⟩ := p
    cases fl with
    | nx =>
      dsimp only [nxV]
      cases isEm e1[i]? <;> simp [WC]
    | _ => rfl
theorem WV_nFrz {V : List Nat} {m : SM} : @WV (nFrz i V m) e N ⟨Q⟩ = @W _ m (e.set i (.im (.nt N))) ⟨fun fl e1 => nxV fl (@WO _ (thE i V 0 e e1) ⟨fun e2 => @WC (isNt e1[i]? && isEm e2[i]?) ⟨Q e2 N⟩⟩)⟩ := by
  simp only [W_eq, WO_eq, WV_eq, nFrz]
  cases m (e.set i (.im (.nt N))) with
  | none => rfl
  | some p =>
    obtain ⟨fl, e1⟩ := p
    cases fl with
    | nx =>
      dsimp only [nxV]
      cases thE i V 0 e e1 with
      | none => rfl
      | some e2 =>
        dsimp only
        cases (isNt e1[i]? && isEm e2[i]?) <;> simp [WC]
    | _ => rfl
theorem thE_nil {V : List Nat} {k : Nat} {e : Env} : thE i V k e [] = some [] := by cases e <;> rfl
theorem thE_cons {V : List Nat} {k : Nat} {s s1 : Sl} {e1 : Env} : thE i V k (s :: e) (s1 :: e1) = (match thE i V (k + 1) e e1 with
    | some r => if k = i then some (.em :: r) else if (!V.contains k && isIm s) = true then some (s :: r) else if slNm s1 = true then some (s1 :: r) else none
    | none => none) := rfl
theorem isIm_im {d : D} : isIm (.im d) = true := rfl
theorem isIm_em : isIm .em = false := rfl
theorem isIm_ow {d : D} : isIm (.ow d) = false := rfl
theorem slNm_em : slNm .em = true := rfl
theorem slNm_im {d : D} : slNm (.im d) = d.nm := rfl
theorem slNm_ow {d : D} : slNm (.ow d) = d.nmC := rfl
theorem WV_nFor {mi : M (List D)} {g : Vl → M Unit} {b : SVM} : @WV (nFor i mi g b) e N ⟨Q⟩ = @W _ mi e ⟨fun ds e1 => @WC (isEm e1[i]?) ⟨@WV (forN (fun v => gd i (g v)) b ds) e1 N ⟨Q⟩⟩⟩ := by
  simp only [W_eq, WV_eq, nFor, gd]
  cases mi e with
  | none => rfl
  | some p =>
    obtain ⟨ds, e1⟩ := p
    dsimp only
    cases isEm e1[i]? <;> simp [WC, WV_eq]
end
theorem ndD_eq (n : List L2.Key) : ndD n = if isK n = true then .kt n else .tup (n.map kD) := by
  have e : (fun k : L2.Key => (match k with
    | .inl i => D.int i
    | .inr x => .str x)) = kD := by
    funext k
    cases k <;> rfl
  rw [← e]
  rfl
theorem keysD_nodes : ∀ (n : List L2.Key), keysD (n.map kD) = some n
  | [] => rfl
  | k :: n => by
    have ih := keysD_nodes n
    rw [List.map_cons]
    cases k <;> simp [keysD, keyD, kD, ih]
theorem nodeD_nd (n : List L2.Key) : nodeD (ndD n) = some n := by
  rw [ndD_eq]
  by_cases h : isK n = true
  · rw [if_pos h]
    show (if isK n = true then some n else none) = _
    rw [if_pos h]
  · rw [if_neg h]
    show (match keysD (n.map kD) with
      | some n => if isK n = true then none else some n
      | none => none) = _
    rw [keysD_nodes]
    exact if_neg h
theorem keyW_nd (a b : List L2.Key) : keyW (.tup [ndD a, ndD b]) = some (k2 a b) := by
  show (match nodeD (ndD a), nodeD (ndD b) with
    | some n, some m => some (k2 n m)
    | _, _ => none) = _
  rw [nodeD_nd, nodeD_nd]
theorem nms_keys : ∀ (n : List L2.Key), nms (n.map kD) = true
  | [] => rfl
  | k :: n => by
    have ih := nms_keys n
    rw [List.map_cons]
    cases k <;> simp [nms, D.nm, kD, ih]
theorem nm_nd (n : List L2.Key) : (ndD n).nm = true := by
  rw [ndD_eq]
  by_cases h : isK n = true
  · rw [if_pos h]; rfl
  · rw [if_neg h]
    exact nms_keys n
end PD
namespace PD
open PySem PySem.Spec PyProof.Rows L2
abbrev Nd := List L2.Key
def NetS.wd (N : NetS) (a b : Nd) : Int := (lkW N.W (k2 a b)).getD 0
def NetS.bs (N : NetS) (a : Nd) : List Nd := (lkBs N.Bs a).getD []
theorem ndSubN {α : Type} [DecidableEq α] : ∀ {a b : List α}, a.Nodup → (∀ x ∈ a, x ∈ b) → a.length ≤ b.length
  | [], b, _, _ => Nat.zero_le _
  | x :: a, b, nd, h => by
    obtain ⟨n1, n2⟩ := List.nodup_cons.mp nd
    have hx := h x (List.mem_cons_self ..)
    have ih := ndSubN (b := b.erase x) n2 fun y hy => (List.mem_erase_of_ne (fun (e : y = x) => n1 (e ▸ hy))).mpr (h y (List.mem_cons_of_mem _ hy))
    rw [List.length_erase_of_mem hx] at ih
    have := List.length_pos_of_mem hx
    rw [List.length_cons]
    omega
/-- the nodes come to, in their order, each with the one ahead of it -/
inductive TreeE (N : NetS) (s : Nd) : List (Nd × Option Nd) → Prop
  | root : TreeE N s [(s, none)]
  | snoc {es p v} : TreeE N s es → v ∉ es.map (·.1) → p ∈ es.map (·.1) → v ∈ N.bs p → 0 < N.wd p v → TreeE N s (es ++ [(v, some p)])
theorem lkA_some {es : List (Nd × Option Nd)} {n : Nd} : (lkA es n).isSome = true ↔ n ∈ es.map (·.1) := by
  induction es with
  | nil => simp [lkA]
  | cons e r ih =>
    obtain ⟨k, v⟩ := e
    unfold lkA
    by_cases h : k = n
    · simp [h]
    · rw [if_neg h, ih]
      simp [Ne.symm h, eq_comm]
theorem lkA_none {es : List (Nd × Option Nd)} {n : Nd} : lkA es n = none ↔ n ∉ es.map (·.1) := by
  rw [← lkA_some]
  cases lkA es n <;> simp
theorem lkA_app {es : List (Nd × Option Nd)} {n : Nd} {o : Option Nd} {m : Nd} : lkA (es ++ [(n, o)]) m = (match lkA es m with
    | some x => some x
    | none => if n = m then some o else none) := by
  induction es with
  | nil => simp [lkA]
  | cons e r ih =>
    obtain ⟨k, v⟩ := e
    rw [List.cons_append]
    unfold lkA
    by_cases h : k = m
    · simp [h]
    · rw [if_neg h, if_neg h]
      exact ih
theorem TreeE.nodup {N : NetS} {s : Nd} {es : List (Nd × Option Nd)} (h : TreeE N s es) : (es.map (·.1)).Nodup := by
  induction h with
  | root => simp
  | @snoc es p v t hv hp hb hw ih =>
    rw [List.map_append]
    refine List.nodup_append.mpr ⟨ih, by simp, fun a ha b hb e => ?_⟩
    have hb : b = v := by simpa using hb
    exact hv (hb ▸ e ▸ ha)
theorem TreeE.start {N : NetS} {s : Nd} {es : List (Nd × Option Nd)} (h : TreeE N s es) : ∃ r, es = (s, none) :: r := by
  induction h with
  | root => exact ⟨_, rfl⟩
  | snoc t hv hp hb hw ih =>
    obtain ⟨r, rfl⟩ := ih
    exact ⟨_, rfl⟩
theorem TreeE.mem_s {N : NetS} {s : Nd} {es : List (Nd × Option Nd)} (h : TreeE N s es) : s ∈ es.map (·.1) := by
  obtain ⟨r, rfl⟩ := h.start
  simp
theorem TreeE.sub {N : NetS} {s : Nd} {es : List (Nd × Option Nd)} {U : List Nd} (h : TreeE N s es) (hb : ∀ a b, b ∈ N.bs a → b ∈ U) : ∀ x ∈ es.map (·.1), x ∈ s :: U := by
  induction h with
  | root => simp
  | snoc t hv hp hb2 hw ih =>
    intro x hx
    rw [List.map_append] at hx
    rcases List.mem_append.mp hx with hx | hx
    · exact ih x hx
    · rw [List.mem_singleton.mp hx]
      exact List.mem_cons_of_mem _ (hb _ _ hb2)
theorem TreeE.len {N : NetS} {s : Nd} {es : List (Nd × Option Nd)} {U : List Nd} (h : TreeE N s es) (hb : ∀ a b, b ∈ N.bs a → b ∈ U) : es.length ≤ U.length + 1 := by
  have := ndSubN h.nodup (h.sub hb)
  simpa using this
/-- a way from s: its arcs, the last one first -/
inductive WayE (N : NetS) (es : List (Nd × Option Nd)) (s : Nd) : Nd → List (Nd × Nd) → Prop
  | nil : WayE N es s s []
  | cons {v p r} : v ≠ s → lkA es v = some (some p) → v ∈ N.bs p → 0 < N.wd p v → WayE N es s p r → WayE N es s v ((p, v) :: r)
/-- where a node stands in the order -/
def rankE : List (Nd × Option Nd) → Nd → Nat
  | [], _ => 0
  | (k, _) :: r, n => if k = n then 0 else rankE r n + 1
theorem rank_lt {es : List (Nd × Option Nd)} {n : Nd} (h : n ∈ es.map (·.1)) : rankE es n < es.length := by
  induction es with
  | nil => simp at h
  | cons e r ih =>
    obtain ⟨k, v⟩ := e
    unfold rankE
    by_cases z : k = n
    · simp [z]
    · rw [if_neg z, List.length_cons]
      have : n ∈ r.map (·.1) := by
        rw [List.map_cons] at h
        rcases List.mem_cons.mp h with h | h
        · exact absurd h.symm z
        · exact h
      have := ih this
      omega
theorem rank_app {es : List (Nd × Option Nd)} {n : Nd} {x : List (Nd × Option Nd)} (h : n ∈ es.map (·.1)) : rankE (es ++ x) n = rankE es n := by
  induction es with
  | nil => simp at h
  | cons e r ih =>
    obtain ⟨k, v⟩ := e
    rw [List.cons_append]
    unfold rankE
    by_cases z : k = n
    · simp [z]
    · rw [if_neg z, if_neg z, ih]
      rw [List.map_cons] at h
      rcases List.mem_cons.mp h with h | h
      · exact absurd h.symm z
      · exact h
theorem rank_new {es : List (Nd × Option Nd)} {n : Nd} {o : Option Nd} (h : n ∉ es.map (·.1)) : rankE (es ++ [(n, o)]) n = es.length := by
  induction es with
  | nil => simp [rankE]
  | cons e r ih =>
    obtain ⟨k, v⟩ := e
    rw [List.map_cons] at h
    have h1 : k ≠ n := fun z => h (z ▸ List.mem_cons_self ..)
    rw [List.cons_append]
    unfold rankE
    rw [if_neg h1, ih fun z => h (List.mem_cons_of_mem _ z), List.length_cons]
/-- what a tree tells of a node come to -/
theorem TreeE.up {N : NetS} {s : Nd} {es : List (Nd × Option Nd)} (h : TreeE N s es) : ∀ v ∈ es.map (·.1), (v = s ∧ lkA es v = some none) ∨ (v ≠ s ∧ ∃ p, lkA es v = some (some p) ∧ p ∈ es.map (·.1) ∧ v ∈ N.bs p ∧ 0 < N.wd p v ∧ rankE es p < rankE es v) := by
  induction h with
  | root =>
    intro v hv
    left
    simp at hv
    subst hv
    simp [lkA]
  | @snoc es p u t hu hp hb hw ih =>
    intro v hv
    rw [List.map_append] at hv
    have hs := t.mem_s
    rcases List.mem_append.mp hv with hv | hv
    · rw [lkA_app]
      rcases ih v hv with ⟨e1, e2⟩ | ⟨e1, q, e2, e3, e4, e5, e6⟩
      · exact .inl ⟨e1, by rw [e2]⟩
      · refine .inr ⟨e1, q, by rw [e2], ?_, e4, e5, ?_⟩
        · rw [List.map_append]
          exact List.mem_append_left _ e3
        · rw [rank_app e3, rank_app hv]
          exact e6
    · have hv : v = u := by simpa using hv
      subst hv
      refine .inr ⟨fun e => hu (e ▸ hs), p, ?_, ?_, hb, hw, ?_⟩
      · rw [lkA_app, lkA_none.mpr hu]
        simp
      · rw [List.map_append]
        exact List.mem_append_left _ hp
      · rw [rank_app hp, rank_new hu]
        exact rank_lt hp
theorem WayE.len {N : NetS} {es : List (Nd × Option Nd)} {s v : Nd} {r : List (Nd × Nd)} (t : TreeE N s es) (h : WayE N es s v r) : ∀ a ∈ r, a.2 ∈ es.map (·.1) ∧ a.1 ∈ es.map (·.1) ∧ rankE es a.2 ≤ rankE es v := by
  induction h with
  | nil => intro a ha; cases ha
  | @cons v p r hs hl hb hw hr ih =>
    intro a ha
    have hm : v ∈ es.map (·.1) := lkA_some.mp (by rw [hl]; rfl)
    rcases t.up v hm with ⟨e1, _⟩ | ⟨_, q, e2, e3, _, _, e6⟩
    · exact absurd e1 hs
    · rw [hl] at e2
      cases e2
      rcases List.mem_cons.mp ha with rfl | ha
      · exact ⟨hm, e3, Nat.le_refl _⟩
      · obtain ⟨i1, i2, i3⟩ := ih a ha
        exact ⟨i1, i2, by omega⟩
end PD
namespace PD
variable [PD.TabL]
open PySem PySem.Spec PyProof.Rows L2
def nd1 : Vl → Option (List L2.Key)
  | .im d => nodeD d
  | _ => none
def kd1 : Vl → Option NestedKey
  | .im d => keyW d
  | _ => none
def int1 : Vl → Option Int
  | .im (.int n) => some n
  | _ => none
def kv1 (rk rv : Vl) : Option (NestedKey × Int) := match rk, rv with
  | .im d, .im (.int n) => (keyW d).map fun k => (k, n)
  | _, _ => none
theorem nd1_im {d : D} : nd1 (.im d) = nodeD d := rfl
theorem kd1_im {d : D} : kd1 (.im d) = keyW d := rfl
theorem int1_im {n : Int} : int1 (.im (.int n)) = some n := rfl
theorem kv1_im {d : D} {n : Int} : kv1 (.im d) (.im (.int n)) = (keyW d).map fun k => (k, n) := rfl
def NetS.setd (N : NetS) (k : NestedKey) (n : Int) : NetS := if (lkW N.W k).isSome = true then N else N.putW k n
section
variable {i j : Nat} {e : Env} {mk mv mo : M Vl} {Q : Env → Fo → Prop}
theorem WVT_nNin {es : List (List L2.Key × Option (List L2.Key))} {Q : Bool → Env → Prop} : @WVT (nNin i mk) e (.ah es) ⟨Q⟩ = @W _ mk e ⟨fun r e1 => @WO _ (nd1 r) ⟨fun n => @WC (isEm e1[i]?) ⟨Q (!(lkA es n).isSome) e1⟩⟩⟩ := by
  simp only [WVT_eq, W_eq, WO_eq, nNin]
  cases mk e with
  | none => rfl
  | some p =>
    obtain ⟨r, e1⟩ := p
    cases r with
    | im d =>
      dsimp only [nd1]
      cases nodeD d with
      | none => rfl
      | some n =>
        dsimp only
        cases isEm e1[i]? <;> simp [WC]
    | _ => rfl
theorem WV_nAhPut {es : List (List L2.Key × Option (List L2.Key))} : @WV (nAhPut i mk mv) e (.ah es) ⟨Q⟩ = @W _ mv e ⟨fun rv e1 => @W _ mk e1 ⟨fun rk e2 => @WO _ (nd1 rv) ⟨fun m => @WO _ (nd1 rk) ⟨fun n => @WC (isEm e2[i]? && isEm e1[i]? && lessL es.length) ⟨Q e2 (.ah (putA es n (some m)))⟩⟩⟩⟩⟩ := by
  simp only [WV_eq, W_eq, WO_eq, nAhPut]
  cases mv e with
  | none => rfl
  | some p =>
    obtain ⟨rv, e1⟩ := p
    cases rv with
    | im dv =>
      dsimp only [nd1]
      cases mk e1 with
      | none => rfl
      | some q =>
        obtain ⟨rk, e2⟩ := q
        cases rk with
        | im dk =>
          dsimp only [nd1]
          cases nodeD dv with
          | none => rfl
          | some m =>
            cases nodeD dk with
            | none => rfl
            | some n =>
              dsimp only
              cases (isEm e2[i]? && isEm e1[i]? && lessL es.length) <;> simp [WC]
        | _ => dsimp only [nd1]; cases nodeD dv <;> rfl
    | _ => dsimp only [nd1]; cases mk e1 <;> rfl
theorem WV_nPut {N : NetS} : @WV (nPut i mk mv) e (.net N) ⟨Q⟩ = @W _ mv e ⟨fun rv e1 => @W _ mk e1 ⟨fun rk e2 => @WO _ (kv1 rk rv) ⟨fun p => @WC (isEm e2[i]? && lessL N.W.length) ⟨Q e2 (.net (N.putW p.1 p.2))⟩⟩⟩⟩ := by
  simp only [WV_eq, W_eq, WO_eq, nPut]
  cases mv e with
  | none => rfl
  | some p =>
    obtain ⟨rv, e1⟩ := p
    dsimp only
    cases mk e1 with
    | none => rfl
    | some q =>
      obtain ⟨rk, e2⟩ := q
      dsimp only
      unfold nKV kv1
      cases rk with
      | im dk =>
        cases rv with
        | im dv =>
          cases dv with
          | int n =>
            dsimp only
            cases keyW dk with
            | none => rfl
            | some k =>
              dsimp only [Option.map_some]
              cases (isEm e2[i]? && lessL N.W.length) <;> simp [WC]
          | _ => rfl
        | _ => rfl
      | _ => rfl
theorem WV_nAug {N : NetS} {f : Int → Int → Int} : @WV (nAug i f mk mv) e (.net N) ⟨Q⟩ = @W _ mk e ⟨fun rk e1 => @WO _ (kd1 rk) ⟨fun k => @WO _ (lkW N.W k) ⟨fun a => @W _ mv e1 ⟨fun rv e2 => @WO _ (int1 rv) ⟨fun n => @WC (isEm e2[i]? && lessL N.W.length) ⟨Q e2 (.net (N.putW k (f a n)))⟩⟩⟩⟩⟩⟩ := by
  simp only [WV_eq, W_eq, WO_eq, nAug]
  cases mk e with
  | none => rfl
  | some p =>
    obtain ⟨rk, e1⟩ := p
    cases rk with
    | im dk =>
      dsimp only [kd1]
      cases hk : keyW dk with
      | none => rfl
      | some k =>
        dsimp only
        cases lkW N.W k with
        | none => rfl
        | some a =>
          dsimp only
          cases mv e1 with
          | none => rfl
          | some q =>
            obtain ⟨rv, e2⟩ := q
            cases rv with
            | im dv =>
              cases dv with
              | int n =>
                dsimp only [int1, nKV]
                rw [hk]
                dsimp only
                cases (isEm e2[i]? && lessL N.W.length) <;> simp [WC]
              | _ => rfl
            | _ => rfl
    | _ => rfl
theorem WV_nSetd {N : NetS} : @WV (nSetd i mk mv) e (.net N) ⟨Q⟩ = @W _ mk e ⟨fun rk e1 => @W _ mv e1 ⟨fun rv e2 => @WO _ (kv1 rk rv) ⟨fun p => @WC (isEm e2[i]? && lessL N.W.length) ⟨Q e2 (.net (N.setd p.1 p.2))⟩⟩⟩⟩ := by
  simp only [WV_eq, W_eq, WO_eq, nSetd]
  cases mk e with
  | none => rfl
  | some p =>
    obtain ⟨rk, e1⟩ := p
    cases rk with
    | im dk =>
      dsimp only
      cases mv e1 with
      | none => rfl
      | some q =>
        obtain ⟨rv, e2⟩ := q
        dsimp only
        cases hk : keyW dk with
        | none =>
          cases rv with
          | im dv => cases dv <;> simp [kv1, hk]
          | _ => rfl
        | some k =>
          dsimp only
          cases rv with
          | im dv =>
            cases dv with
            | int n =>
              simp only [kv1, hk, Option.map_some, NetS.setd]
              cases hl : lkW N.W k with
              | none =>
                simp only [nKV, hk]
                cases (isEm e2[i]? && lessL N.W.length) <;> simp [WC, NetS.setd, hl]
              | some a =>
                dsimp only
                cases (isEm e2[i]? && lessL N.W.length) <;> simp [WC, NetS.setd, hl]
            | _ => cases lkW N.W k <;> simp [kv1, nKV]
          | _ => cases lkW N.W k <;> simp [kv1, nKV]
    | _ => dsimp only [kv1]; cases mv e1 <;> rfl
theorem WV_nBes {N : NetS} : @WV (nBes i mk mo) e (.net N) ⟨Q⟩ = @W _ mk e ⟨fun rk e1 => @W _ mo e1 ⟨fun ro e2 => @WO _ (nd1 rk) ⟨fun n => @WO _ (nd1 ro) ⟨fun m => @WC (isEm e2[i]? && isEm e1[i]? && lessL N.Bs.length && lessL (bsLen N.Bs n)) ⟨Q e2 (.net (N.add n m))⟩⟩⟩⟩⟩ := by
  simp only [WV_eq, W_eq, WO_eq, nBes]
  cases mk e with
  | none => rfl
  | some p =>
    obtain ⟨rk, e1⟩ := p
    cases rk with
    | im dk =>
      dsimp only [nd1]
      cases mo e1 with
      | none => rfl
      | some q =>
        obtain ⟨ro, e2⟩ := q
        cases ro with
        | im dm =>
          dsimp only [nd1]
          cases nodeD dk with
          | none => rfl
          | some n =>
            cases nodeD dm with
            | none => rfl
            | some m =>
              dsimp only
              cases (isEm e2[i]? && isEm e1[i]? && lessL N.Bs.length && lessL (bsLen N.Bs n)) <;> simp [WC]
        | _ => dsimp only [nd1]; cases nodeD dk <;> rfl
    | _ => dsimp only [nd1]; cases mo e1 <;> rfl
theorem WO_cW {F : FsW} {rs : List Vl} {N : NetS} {Q : Vl × Fo → Prop} : @WO _ (cW i F rs e (.net N)) ⟨Q⟩ = @WO _ (cnts e rs) ⟨fun ds => @WC (isEm e[i]? && (brIx e (List.replicate rs.length false) rs).isEmpty && decide (rs.length = F.n)) ⟨@WO _ (F.sem N ds) ⟨fun p => @WC (noBo p.1) ⟨Q (p.1, .net p.2)⟩⟩⟩⟩ := by
  simp only [WO_eq, cW]
  cases cnts e rs with
  | none => rfl
  | some ds =>
    dsimp only
    cases (isEm e[i]? && (brIx e (List.replicate rs.length false) rs).isEmpty && decide (rs.length = F.n)) with
    | false => simp [WC]
    | true =>
      rw [WC_true]
      simp only [if_true, WO_eq]
      cases F.sem N ds with
      | none => rfl
      | some p =>
        obtain ⟨r, N'⟩ := p
        dsimp only
        cases noBo r <;> simp [WC]
theorem WV_nCallW {F : FsW} {ms : M (List Vl)} {N : Fo} : @WV (nCallW i F ms) e N ⟨Q⟩ = @W _ ms e ⟨fun rs e1 => @WO _ (cW i F rs e1 N) ⟨fun p => Q e1 p.2⟩⟩ := by
  simp only [WV_eq, W_eq, WO_eq, nCallW]
  cases ms e with
  | none => rfl
  | some p =>
    obtain ⟨rs, e1⟩ := p
    dsimp only
    cases cW i F rs e1 N <;> rfl
theorem WV_nSetW {F : FsW} {ms : M (List Vl)} {N : Fo} : @WV (nSetW i j F ms) e N ⟨Q⟩ = @W _ ms e ⟨fun rs e1 => @WO _ (cW i F rs e1 N) ⟨fun p => @W _ (gN j p.1) e1 ⟨fun _ e2 => @WC (isEm e2[i]?) ⟨Q e2 p.2⟩⟩⟩⟩ := by
  simp only [WV_eq, W_eq, WO_eq, nSetW]
  cases ms e with
  | none => rfl
  | some p =>
    obtain ⟨rs, e1⟩ := p
    dsimp only
    cases cW i F rs e1 N with
    | none => rfl
    | some q =>
      obtain ⟨r, N'⟩ := q
      dsimp only
      cases gN j r e1 with
      | none => rfl
      | some z =>
        obtain ⟨u, e2⟩ := z
        dsimp only
        cases isEm e2[i]? <;> simp [WC]
theorem WV_nRet {N : Fo} : @WV (nRet i j) e N ⟨Q⟩ = @WC (isOw e[j]? || isImO e[j]? || j == i) ⟨Q e N⟩ := by
  simp only [WV_eq, nRet]
  cases (isOw e[j]? || isImO e[j]? || j == i) <;> simp [WC]
def isNs : Sl → Bool
  | .im (.nt (.net _)) => true
  | _ => false
theorem isNs_nt {N : NetS} : isNs (.im (.nt (.net N))) = true := rfl
theorem W_eMethS {F : FsS} {ms : M (List Vl)} {Q : Vl → Env → Prop} : @W _ (eMethS F i ms) e ⟨Q⟩ = @WO _ e[i]? ⟨fun sl => @WC (isNs sl) ⟨@W _ (cA (eV i) ms) e ⟨fun rs e1 => @WO _ (cnts e1 rs) ⟨fun ds => @WC ((brIx e1 (List.replicate rs.length false) rs).isEmpty && decide (rs.length = F.n)) ⟨@WO _ (F.sem ds) ⟨fun f => Q (.im (.nt f)) e1⟩⟩⟩⟩⟩⟩ := by
  simp only [W_eq, WO_eq]
  unfold eMethS
  cases e[i]? with
  | none => rfl
  | some sl =>
    cases sl with
    | im d =>
      cases d with
      | nt f =>
        cases f with
        | net N =>
          dsimp only
          rw [isNs_nt, WC_true]
          simp only [W_eq, WO_eq]
          cases (cA (eV i) ms) e with
          | none => rfl
          | some p =>
            obtain ⟨rs, e1⟩ := p
            dsimp only
            cases cnts e1 rs with
            | none => rfl
            | some ds =>
              dsimp only
              cases ((brIx e1 (List.replicate rs.length false) rs).isEmpty && decide (rs.length = F.n)) with
              | false => simp [WC]
              | true =>
                rw [WC_true, if_pos rfl, WO_eq]
                cases F.sem ds <;> rfl
        | _ => simp [WC, isNs]
      | _ => simp [WC, isNs]
    | _ => simp [WC, isNs]
end
end PD
namespace PD
open PySem PySem.Spec PyProof.Rows L2
/-- the arcs of a way hang together -/
inductive Chn (s : Nd) : Nd → List (Nd × Nd) → Prop
  | nil : Chn s s []
  | cons {v p r} : Chn s p r → Chn s v ((p, v) :: r)
end PD
namespace PD
variable [PD.TabL]
open PySem PySem.Spec PyProof.Rows L2
section
variable {K : PySem.W.Frag} {A : Anc} {B H : Hp} {σ τ : L2.St} {env pe : Env}
end
def imsV : List Vl → Option (List D)
  | [] => some []
  | .im d :: r => (imsV r).map (d :: ·)
  | _ :: _ => none
def okSl : Sl → Bool
  | .im _ => true
  | sl => slNm sl
/-- name = self.m(..) -/
def nSetS (i j : Nat) (F : FsS) (ms : M (List Vl)) : SVM := fun e f => match f with
  | .net N => match ms e with
    | some (rs, e1) => match imsV rs with
      | some ds => if (isEm e1[i]? && decide (i ≠ j) && decide (j < e1.length) && e1.all okSl && decide (rs.length + 1 = F.n)) = true then match F.sem (.nt (.net N) :: ds) with
          | some f => some (e1.set j (.im (.nt f)), .net N)
          | none => none
        else none
      | none => none
    | none => none
  | _ => none
section
variable {K : PySem.W.Frag} {i : Nat} {F : FsS} {ms : M (List Vl)} {t : TA} {C : Addr} {P : Program} {w : World} {m : Str}
end
section
variable {g : G0} {c : Ct} {i j : Nat} {e : Expr} {es : List Expr} {ms : M (List Vl)} {y : Str} {p p2 p3 pos apos : Pos}
end
/-- its running rule -/
theorem imsV_nil : imsV [] = some [] := rfl
theorem imsV_cons {d : D} {r : List Vl} : imsV (.im d :: r) = (imsV r).map (d :: ·) := rfl
theorem okSl_im {d : D} : okSl (.im d) = true := rfl
theorem okSl_em : okSl .em = true := rfl
theorem okSl_ow {d : D} : okSl (.ow d) = d.nmC := rfl
theorem WV_nSetS {i j : Nat} {F : FsS} {ms : M (List Vl)} {e : Env} {N : NetS} {Q : Env → Fo → Prop} : @WV (nSetS i j F ms) e (.net N) ⟨Q⟩ = @W _ ms e ⟨fun rs e1 => @WO _ (imsV rs) ⟨fun ds => @WC (isEm e1[i]? && decide (i ≠ j) && decide (j < e1.length) && e1.all okSl && decide (rs.length + 1 = F.n)) ⟨@WO _ (F.sem (.nt (.net N) :: ds)) ⟨fun f => Q (e1.set j (.im (.nt f))) (.net N)⟩⟩⟩⟩ := by
  simp only [WV_eq, W_eq, WO_eq, nSetS]
  cases ms e with
  | none => rfl
  | some p =>
    obtain ⟨rs, e1⟩ := p
    dsimp only
    cases imsV rs with
    | none => rfl
    | some ds =>
      dsimp only
      cases (isEm e1[i]? && decide (i ≠ j) && decide (j < e1.length) && e1.all okSl && decide (rs.length + 1 = F.n)) with
      | false => simp [WC]
      | true =>
        rw [WC_true, if_pos rfl, WO_eq]
        cases F.sem (.nt (.net N) :: ds) <;> rfl
end PD
namespace PD
open PySem PySem.Spec PyProof.Rows L2
/-- a net that n leads have built -/
structure BOk (N : NetS) (n : Nat) : Prop where
  nd : (N.W.map (·.1)).Nodup
  nn : ∀ e ∈ N.W, 0 ≤ e.2
  wl : N.W.length ≤ 2 * n
  bl : N.Bs.length ≤ 2 * n
  bb : ∀ a, (N.bs a).length ≤ 2 * n
  has : ∀ a b, b ∈ N.bs a → (lkW N.W (k2 a b)).isSome = true ∧ (lkW N.W (k2 b a)).isSome = true
  fin : ∀ a b, b ∈ N.bs a → b ∈ N.Bs.map (·.1)
theorem BOk.nil : BOk ⟨[], []⟩ 0 := ⟨List.Pairwise.nil, fun _ h => (nomatch h), Nat.le_refl _, Nat.le_refl _, fun _ => Nat.le_refl _, fun _ _ h => (nomatch h), fun _ _ h => (nomatch h)⟩
end PD
namespace PD
open PySem PySem.Spec PyProof.Rows L2
end PD
namespace PD
open PySem PySem.Spec PyProof.Rows L2
end PD
namespace PD
variable [PD.TabL]
open PySem PySem.Spec PyProof.Rows L2
section
variable {X : Cx}
end
section
variable {g : G0} {c : Ct} {o : Expr} {m : M Vl} {p p2 pos pos2 : Pos}
end
end PD
namespace PD
variable [PD.TabL]
open PySem PySem.Spec PyProof.Rows L2
end PD
namespace PD
variable [PD.TabL]
open PySem PySem.Spec PyProof.Rows L2
section
variable {prog : Program} {w : World} {A : Around} {E : Value → Shared → Prop} {s : Shared}
end
section
variable {X : Cx}
end
section
variable {g : G0} {c : Ct} {o : Expr} {m : M Vl} {p apos cpos pos : Pos}
end
end PD
namespace PD
variable [PD.TabL]
open PySem PySem.Spec PyProof.Rows L2
end PD
namespace PD
variable [PD.TabL]
open PySem PySem.Spec PyProof.Rows L2
theorem vv {g : G0} {c : Ct} {pos : Pos} {i : Nat} {x : Str} (hN : c.N[i]? = some x := by rfl) (hv : Vis c.sc x := by first | exact .inl rfl | exact .inr (.inl rfl) | exact .inr (.inr rfl)) (hd : (x == ("__debug__" : Str)) = false := by decide) (hcd : (x == ("__classdict__" : Str)) = false := by decide) : EE g c (.Name x pos) (eV i) := ee_var hN hv hd hcd
end PD
namespace PD
variable [PD.TabL]
open PySem PySem.Spec PyProof.Rows L2
section
variable {K : PySem.W.Frag} {A : Anc} {B H : Hp} {σ : L2.St} {env env' : Env} {a : Addr} {od : Obj}
end
section
variable {K : PySem.W.Frag} {A : Anc} {B H : Hp} {σ : L2.St} {env : Env}
end
section
variable {g : G0} {c : Ct} {V : List Nat} {n : SM} {s : Stmt}
end
section
variable {e : Env} {u v : Nat} {V : List Nat} {m : SM} {Q : Fl → Env → Prop}
end
end PD
namespace PD
variable [PD.TabL]
open PySem PySem.Spec PyProof.Rows L2
section
variable {K : PySem.W.Frag} {A : Anc} {B H : Hp} {σ τ : L2.St} {env pe : Env} {VV : List Nat}
structure RGK (K : PySem.W.Frag) (A : Anc) (f u : Nat) (B H : Hp) (env : Env) (σ : L2.St) (d : D) (L : List D) : Prop where
  hf : f < env.length
  ef : env[f]? = some .em
  len : σ.length = env.length
  ex : ∃ (Hs Bm B2 : Hp), (∀ a, Hs a = none → A.H0 a = none) ∧
    (∀ H' : Hp, (∀ a o, Hs a = some o → H' a = some o) → (∀ q ∈ TabL.T, LamX.TabS H' q.1 q.2) → SR K A B H' σ env) ∧
    (∀ (ds : List D) (p : Addr), env[u]? = some (.ow (.lst ds)) → σ[u]? = some (some (V.ref p)) → (∃ o, Hs p = some o) ∧ Bm p = none) ∧
    (∀ a xs, Bm a = some (HO.lst xs) → ∃ dl ∈ L, Rp K Bm dl (.ref a)) ∧
    Same Bm B2 ∧ SR K ⟨Hs, Bm, fun _ => none, fun _ => none⟩ B2 H σ ((emp env.length).set f (.im d))
end
section
variable (g : G0) (c : Ct)
end
section
variable {g : G0} {c : Ct} {V VV : List Nat} {e o : Expr} {es : List Expr} {pos apos pos2 : Pos} {m n : SM} {me mo : M Vl} {ms : M (List Vl)} {s : Stmt} {r : List Stmt} {f u : Nat} {mr : RM} {id : String} {name : Str} {gf : D → List D → Option (D × D)}
end
section
variable {e : Env} {Q : Fl → Env → Prop} {f u : Nat} {V : List Nat} {m : SM} {ms : M (List Vl)} {mo : M Vl} {mr : SM} {rm : RM} {d : D} {L ds : List D} {gf : D → List D → Option (D × D)}
end
end PD
namespace PD
variable [PD.TabL]
open PySem PySem.Spec PyProof.Rows L2
end PD
namespace PD
variable [PD.TabL]
open PySem PySem.Spec PyProof.Rows L2
def qT : Vl → Vl → M Vl
  | .im (.tup ks), .im dv => match keysD ks with
    | some k => rt (.fr (.dt [(k, dv)]))
    | none => fun _ => none
  | _, _ => fun _ => none
def eDispT (mk mv : M Vl) : M Vl := bd mk fun rk => bd mv fun rv => qT rk rv
section
variable {K : PySem.W.Frag} {A : Anc}
end
theorem W_eDispT {e : Env} {mk mv : M Vl} {Q : Vl → Env → Prop} : @W _ (eDispT mk mv) e ⟨Q⟩ = @W _ mk e ⟨fun rk e1 => @W _ mv e1 ⟨fun rv e2 => match rk, rv with
    | .im (.tup ks), .im dv => @WO _ (keysD ks) ⟨fun k => Q (.fr (.dt [(k, dv)])) e2⟩
    | _, _ => False⟩⟩ := by
  unfold eDispT
  simp only [W_eq, bd]
  cases mk e with
  | none => rfl
  | some p =>
    dsimp only
    try rw [W_eq]
    cases mv p.2 with
    | none => rfl
    | some p2 =>
      dsimp only
      cases p.1 with
      | im d =>
        cases d <;> try rfl
        cases p2.1 with
        | im d2 =>
          dsimp only [qT]
          rw [WO_eq]
          generalize keysD _ = o
          cases o <;> rfl
        | fr _ => rfl
        | bo _ => rfl
      | fr _ => rfl
      | bo _ => rfl
def eLkT (m : M Vl) : M Vl := fun e => match m e with
  | some (.bo i, e1) => match e1[i]? with
    | some (.ow (.dt es)) => some (.im (.tf es), e1.set i (.im (.tf es)))
    | _ => none
  | _ => none
section
variable {K : PySem.W.Frag} {A : Anc}
end
theorem W_eLkT {e : Env} {m : M Vl} {Q : Vl → Env → Prop} : @W _ (eLkT m) e ⟨Q⟩ = @W _ m e ⟨fun r e1 => match r with
    | .bo i => @WO _ e1[i]? ⟨fun sl => match sl with
      | .ow (.dt es) => @WO _ (setO e1 i (.im (.tf es))) ⟨fun e2 => Q (.im (.tf es)) e2⟩
      | _ => False⟩
    | _ => False⟩ := by
  have sO : ∀ {l : Env} {i : Nat} {sl x : Sl}, l[i]? = some sl → setO l i x = some (l.set i x) := fun {l i sl x} h => by
    rw [← setO_ok, if_pos (List.getElem?_eq_some_iff.mp h).1]
  unfold eLkT
  simp only [W_eq]
  cases m e with
  | none => rfl
  | some p =>
    obtain ⟨r, e1⟩ := p
    cases r with
    | fr d => rfl
    | im d => rfl
    | bo i =>
      dsimp only
      rw [WO_eq]
      cases hs : e1[i]? with
      | none => rfl
      | some sl =>
        cases sl with
        | ow d =>
          cases d <;> try rfl
          dsimp only
          rw [sO hs, WO_some]
        | _ => rfl
end PD
namespace PD
variable [PD.TabL]
open PySem PySem.Spec PyProof.Rows L2
section
variable {X : Cx}
end
end PD
namespace PD
variable [PD.TabL]
open PySem PySem.Spec PyProof.Rows L2
section
variable {K : PySem.W.Frag} {A : Anc}
end
section
variable {g : G0} {c : Ct} {e : Expr} {es : List Expr} {pos p pos2 cp sp cpos py : Pos} {ms : M (List Vl)} {s r : List Stmt} {m n : SM}
end
end PD
namespace PD
variable [PD.TabL]
open PySem PySem.Spec PyProof.Rows L2
def intSD : List D → Option Vl
  | [.str a] => match PySem.intText? a with
    | some n => if a.length ≤ 640 then some (.im (.int n)) else none
    | none => none
  | _ => none
theorem ca_intS {g : G0} : CaI g (.type "int") intSD := by
  refine ⟨_, fun c X hX => call_int_str, fun A B H vs env xs ds res Q S rr e q => ?_⟩
  unfold intSD at e
  split at e
  · rename_i a
    split at e
    · rename_i n hn
      split at e
      · rename_i hl
        cases e
        obtain ⟨x, rfl, r1⟩ := pr1 rr
        obtain ⟨rfl, _⟩ := r1.str
        exact ⟨a, n, rfl, hn, hl, q B H _ (Same.refl _) (.im S (.int _))⟩
      · cases e
    · cases e
  · cases e
inductive EntC (cls : Str → Option Addr) : List DictEntry → List Str → Prop
  | nil : EntC cls [] []
  | cons {e : DictEntry} {r : List DictEntry} {x : Str} {a : Addr} {t : Tok} {es : List Str} : e.key = .str x t → e.val = .ref a → cls x = some a → EntC cls r es → EntC cls (e :: r) (x :: es)
theorem EntC.find {cls : Str → Option Addr} {z : Str} : ∀ {l : List DictEntry} {es : List Str}, EntC cls l es → (∃ a, (l.find? fun d => Value.isStrOf z d.key).map (fun e => e.val) = some (Value.ref a) ∧ z ∈ es ∧ cls z = some a) ∨ ((l.find? fun d => Value.isStrOf z d.key) = none ∧ z ∉ es)
  | _, _, .nil => .inr ⟨rfl, by simp⟩
  | _, _, .cons (e := e) (x := x) (a := a) (t := t) h1 h2 h3 r => by
    by_cases hz : z = x
    · subst hz
      refine .inl ⟨a, ?_, List.mem_cons_self .., h3⟩
      rw [List.find?_cons_of_pos (by rw [h1]; simp [Value.isStrOf])]
      simp [h2]
    · rw [List.find?_cons_of_neg (by rw [h1]; simp [Value.isStrOf]; exact fun e => hz (by first | exact e | exact e.symm))]
      rcases r.find (z := z) with ⟨a, f1, f2, f3⟩ | ⟨f1, f2⟩
      · exact .inl ⟨a, f1, List.mem_cons_of_mem _ f2, f3⟩
      · exact .inr ⟨f1, fun h => (List.mem_cons.mp h).elim hz f2⟩
structure GVC (g : G0) (x : Str) (es : List Str) : Prop where
  ex : ∃ (a : Addr) (arr : Array DictEntry) (n : Nat), g.mg x = some (.ref a) ∧ g.K.lookup a = some ⟨.type "dict", none, .dict arr n, #[]⟩ ∧ PySem.W.KeysLit g.w.params arr.toList ∧ (a == sysModules) = false ∧ EntC TabL.cls arr.toList es
def rGetC (es : List Str) : List V → Hp → VK → Prop := fun xs H Q => ∃ z, xs = [.str z] ∧ ((∃ a, z ∈ es ∧ TabL.cls z = some a ∧ Q (.ref a) H) ∨ (z ∉ es ∧ Q .non H))
def cgetD (es : List Str) : List D → Option Vl
  | [.str z] => if z ∈ es then some (.im (.cl z)) else some (.im .non)
  | _ => none
theorem ps_getC {K : PySem.W.Frag} {es : List Str} (hc : ∀ z ∈ es, ∃ a, TabL.cls z = some a) : PrS K (rGetC es) (cgetD es) := fun A B H vs env xs ds res Q S rr e q => by
  unfold cgetD at e
  split at e
  · rename_i z
    obtain ⟨x, rfl, r1⟩ := pr1 rr
    obtain ⟨rfl, _⟩ := r1.str
    split at e
    · rename_i hz
      cases e
      obtain ⟨a, ha⟩ := hc z hz
      exact ⟨z, rfl, .inl ⟨a, hz, ha, q B H _ (Same.refl _) (.im S (.cl ha))⟩⟩
    · rename_i hz
      cases e
      exact ⟨z, rfl, .inr ⟨hz, q B H _ (Same.refl _) (.im S .non)⟩⟩
  · cases e
theorem pe_getC {X : Cx} {e : Expr} {te : TE} {x : Str} {a : Addr} {arr : Array DictEntry} {n : Nat} {es : List Str} {p1 apos cpos : Pos} (hg : Gl X x) (hm : X.mg x = some (.ref a)) (hl : X.K.lookup a = some ⟨.type "dict", none, .dict arr n, #[]⟩)
    (hk : PySem.W.KeysLit X.w.params arr.toList) (hs : (a == sysModules) = false) (hE : EntC TabL.cls arr.toList es) (he : PE X e te) (m : M1 X (.Name x p1) "get" apos e cpos) (hdb : (x == ("__debug__" : Str)) = false) :
    PE X (.Call (.Attribute (.Name x p1) "get" apos) [e] [] cpos) (tCB (rGetC es) (tCons te tNil)) := by
  refine ⟨fun pins s σ H Q I h => ?_⟩
  refine wpAny_Call_method m.base m.few m.line PySem.F.plainAttrs_dict PySem.F.slot_dict_get PySem.F.type_dict_get (ld_glob I hg hm ?_ hdb)
  have hM := PySem.W.mapOf_K (prog := X.prog) (w := X.w) I.kIn hl hk
  refine ⟨hM.typeIs, fun b q => ⟨_, by cases q; exact I.kIn a _ hl, rfl⟩, ?_⟩
  rw [m.trees]
  refine Calls.callWith_builtin rfl (Calls.evalArgs_plain (Calls.spliced_cons (thn (he.run pins s σ H _ I h) fun iv s2 ⟨y, H2, I2, ry, q2⟩ => Calls.spliced_nil ?_)))
  obtain ⟨z, ez, q3⟩ := q2
  cases ez
  obtain ⟨t, rfl⟩ := (show ∃ t, iv = Value.str z t from ry)
  have I3 := I2.tok (s2.toks + 1)
  have hM3 := PySem.W.mapOf_K (prog := X.prog) (w := X.w) I2.kIn hl hk
  refine call_meetsIn PySem.F.slot_dict_get hM3.typeIs PySem.F.entry_dict_get (PySem.F.args_dict_get_2 _ _) (meets_dict_get (strKind X.prog X.w) a (strKind_is X.prog X.w z t) hs) ⟨_, hM3, ?_⟩
  have fb : ∀ k, findBy Value.isStrOf arr k = (arr.toList.find? fun d => Value.isStrOf k d.key).map (fun e => e.val) := fun k => by
    unfold findBy
    obtain ⟨l⟩ := arr
    rw [List.find?_toArray]
  rw [fb]
  rcases hE.find (z := z) with ⟨b, f1, f2, f3⟩ | ⟨f1, f2⟩
  · rw [f1]
    rcases q3 with ⟨b', _, h2, q3⟩ | ⟨h1, _⟩
    · rw [f3] at h2
      cases h2
      exact ⟨.ref b, H2, I3, rfl, q3⟩
    · exact absurd f2 h1
  · rw [f1]
    rcases q3 with ⟨b', h1, _⟩ | ⟨_, q3⟩
    · exact absurd h1 f2
    · exact ⟨.non, H2, I3, rfl, q3⟩
theorem ee_getC {g : G0} {c : Ct} {e : Expr} {m : M Vl} {x : Str} {es : List Str} {p1 apos pos : Pos} (hg : GlC c x) (hm : GVC g x es) (h : EE g c e m) (hb : ∀ env : PySem.Env, attributeBase (.Name x p1) "get" env (eval (.Name x p1) env) = eval (.Name x p1) env)
    (hf : ∀ env : PySem.Env, ((backTo pos (starEach [e] env)).all (fun x => !x.1) && (backToKw pos (keywordEach [] env)).all (fun x => x.1.isSome)
      && decide (([e] : List Expr).length + ([] : List Keyword).length + (if ([] : List Keyword).isEmpty then 0 else 1) < 30)) = true) (hl : (apos.endLine == pos.line) = true)
    (ht : ∀ env : PySem.Env, backTo pos (starEach [e] env) = [(false, eval e env)]) (hdb : (x == ("__debug__" : Str)) = false) :
    EE g c (.Call (.Attribute (.Name x p1) "get" apos) [e] [] pos) (eP (cgetD es) (cA m cN)) := by
  obtain ⟨t, h1, h2⟩ := h
  obtain ⟨a, arr, n, g1, g2, g3, g4, g5⟩ := hm.ex
  have hc : ∀ z ∈ es, ∃ a, TabL.cls z = some a := by
    have key : ∀ {l : List DictEntry} {es : List Str}, EntC TabL.cls l es → ∀ z ∈ es, ∃ a, TabL.cls z = some a := fun {l es} h => by
      induction h with
      | nil => exact fun z hz => by simp at hz
      | cons h1 h2 h3 r ih => exact fun z hz => (List.mem_cons.mp hz).elim (fun e => e ▸ ⟨_, h3⟩) (ih z)
    exact key g5
  exact ⟨_, fun X hX => pe_getC (gl_of hX hg) (by rw [hX.em]; exact g1) (by rw [hX.eK]; exact g2) (by rw [hX.ew]; exact g3) g4 g5 (h1 X hX) ⟨hb _, hf _, hl, ht _⟩ hdb, fun A => sx_prim (ps_getC hc) (sa_cons (h2 A) sa_nil)⟩
def TabR (K : PySem.W.Frag) (tbl : List (Str × List Str)) : Prop := ∀ n r, tbl.lookup n = some r → (∀ x ∈ r, PyData.strOk x = true) ∧ ∃ (a : Addr) (o : Obj) (its : Array Value) (k : Nat), TabL.cls n = some a ∧ K.lookup a = some o ∧ o.cls = .type "tuple" ∧ o.data = .seq its k ∧ its.size ≤ sizeLine ∧ Vals (r.map V.str) its.toList
theorem TabR.sq {K : PySem.W.Frag} {tbl : List (Str × List Str)} (h : TabR K tbl) {n : Str} {r : List Str} (hn : tbl.lookup n = some r) {B : Hp} {v : V} (hv : Rp K B (.cl n) v) : ∃ a, v = .ref a ∧ (∀ H : Hp, SqT K H a (r.map V.str)) ∧ ∀ B : Hp, Rps K B (r.map D.str) (r.map V.str) := by
  obtain ⟨hs, a, o, its, k, h1, h2, h3, h4, h5, h6⟩ := h n r hn
  cases hv with
  | cl hc =>
    rw [h1] at hc
    cases hc
    exact ⟨a, rfl, fun H => .inr ⟨o, its, k, h2, h3, h4, h5, h6⟩, fun B => rps_okS hs⟩
def lenCD (tbl : List (Str × List Str)) : List D → Option Vl
  | [.cl n] => (tbl.lookup n).map fun r => .im (.int (r.length : Int))
  | _ => none
theorem ca_lenC {g : G0} {tbl : List (Str × List Str)} (h : TabR g.K tbl) : CaI g (.builtin "len") (lenCD tbl) := by
  refine ⟨fun xs H Q => ∃ p ys, xs = [.ref p] ∧ (SqL g.K H p ys ∨ SqT g.K H p ys) ∧ Q (.int ys.length) H, fun c X hX => by rw [← hX.eK]; exact call_len_seq, fun A B H vs env xs ds res Q S rr e q => ?_⟩
  unfold lenCD at e
  split at e
  · rename_i n
    rw [Option.map_eq_some_iff] at e
    obtain ⟨r, hr, rfl⟩ := e
    obtain ⟨x, rfl, r1⟩ := pr1 rr
    obtain ⟨C, rfl, hc⟩ := r1.cl
    obtain ⟨a, e1, q1, _⟩ := h.sq hr (B := B) (.cl hc)
    refine ⟨a, _, by rw [e1], .inr (q1 H), ?_⟩
    rw [List.length_map]
    exact q B H _ (Same.refl _) (.im S (.int _))
  · cases e
def seqC (tbl : List (Str × List Str)) : D → Option (List D)
  | .cl n => (tbl.lookup n).map fun r => r.map D.str
  | d => seqD d
def mZipC (tbl : List (Str × List Str)) (ms : M (List Vl)) : M (List D) := bd ms fun rs => bd (frzs rs) fun ds => match ds with
  | [x, y] => match seqC tbl x, seqD y with
    | some a, some b => rt (zipD a b)
    | _, _ => fun _ => none
  | _ => fun _ => none
theorem Rp.seqC {K : PySem.W.Frag} {tbl : List (Str × List Str)} (hT : TabR K tbl) {B : Hp} {d : D} {v : V} {ds : List D} (h : Rp K B d v) (e : seqC tbl d = some ds) : ∃ a xs k, v = .ref a ∧ SqM K k B a xs ∧ Rps K B ds xs := by
  by_cases hd : ∃ n, d = .cl n
  · obtain ⟨n, rfl⟩ := hd
    have e : (tbl.lookup n).map (fun r => r.map D.str) = some ds := e
    rw [Option.map_eq_some_iff] at e
    obtain ⟨r, hr, rfl⟩ := e
    obtain ⟨a, rfl, q1, q2⟩ := hT.sq hr h
    exact ⟨a, _, true, rfl, q1 B, q2 B⟩
  · have e : seqD d = some ds := by
      cases d <;> first | exact e | exact absurd ⟨_, rfl⟩ hd
    exact Rp.seqM h e
theorem si_zipC {K : PySem.W.Frag} {A : Anc} {tbl : List (Str × List Str)} (hT : TabR K tbl) {t : TA} {ms : M (List Vl)} (h : SAX K A t ms) : SIX K A (iZipM K t) (mZipC tbl ms) := fun σ τ B H env pe env' ds R S hl e q => by
  obtain ⟨rs, e1, h1, f1⟩ := bd_inv e
  obtain ⟨es, e2, h2, f2⟩ := bd_inv f1
  refine h σ τ B H env pe e1 rs _ S hl h1 fun B1 H1 vs s1 hl1 S1 hr => ?_
  obtain ⟨B2, s2, S2, hl2, rr⟩ := frzs_ok S1 hl1 hr h2
  match es, f2, rr with
  | [x, y], f2, rr =>
    have f2 : (match seqC tbl x, seqD y with | some a, some b => rt (zipD a b) | _, _ => fun _ => none) e2 = some (ds, env') := f2
    cases ha : seqC tbl x with
    | none =>
      rw [ha] at f2
      cases f2
    | some a =>
      cases hb : seqD y with
      | none =>
        rw [ha, hb] at f2
        cases f2
      | some b =>
        rw [ha, hb] at f2
        cases f2
        obtain ⟨u, v, rfl, r1, r2⟩ := rps2 rr
        obtain ⟨p, xs, k, rfl, q1, w1⟩ := Rp.seqC hT r1 ha
        obtain ⟨p', ys, k', rfl, q2, w2⟩ := Rp.seqM r2 hb
        exact ⟨p, p', xs, ys, k, k', rfl, q1.same S2.same, q2.same S2.same, q B2 H1 _ (s1.trans s2) hl2 S2 (wd_zipM q1 q2 w1 w2)⟩
  | [], f2, _ => cases f2
  | [_], f2, _ => cases f2
  | _ :: _ :: _ :: _, f2, _ => cases f2
section
variable {g : G0} {c : Ct} {a b : Expr} {ms : M (List Vl)} {p pos tpos : Pos} {elts : List Expr} {kk : Nat}
theorem ei_zipC {tbl : List (Str × List Str)} (hT : TabR g.K tbl) (hg : GlC c "zip") (hm : g.mg "zip" = none) (h : EA g c [a, b] ms) (pl : Pl a) (pl2 : Pl b) : EI g c (.Tuple elts kk tpos) (.Call (.Name "zip" p) [a, b] [] pos) (mZipC tbl ms) := by
  obtain ⟨t, h1, h2⟩ := h
  exact ⟨iZipM g.K t, fun X hX => by
    rw [← hX.eK]
    exact pi_zipM (gl_of hX hg) (by rw [hX.em]; exact hm) (h1 X hX) (pl [b] X.env) (by rw [pl2 [] X.env]; rfl), fun A => si_zipC hT (h2 A)⟩
end
end PD
namespace PD
variable [PD.TabL]
open PySem PySem.Spec PyProof.Rows L2
def PairE (K : PySem.W.Frag) (u : Value) (lo hi : Int) : Prop := ∃ (b : Addr) (o : Obj) (its : Array Value) (n : Nat), u = .ref b ∧ K.lookup b = some o ∧ o.cls = .type "tuple" ∧ o.data = .seq its n ∧ its.size ≤ sizeLine ∧ Vals [V.int lo, V.int hi] its.toList
inductive EntP (K : PySem.W.Frag) : List DictEntry → List (Str × Int × Int) → Prop
  | nil : EntP K [] []
  | cons {e : DictEntry} {r : List DictEntry} {x : Str} {lo hi : Int} {t : Tok} {es : List (Str × Int × Int)} : e.key = .str x t → PairE K e.val lo hi → EntP K r es → EntP K (e :: r) ((x, lo, hi) :: es)
theorem EntP.find {K : PySem.W.Frag} {z : Str} : ∀ {l : List DictEntry} {es : List (Str × Int × Int)}, EntP K l es → (∃ u lo hi, (l.find? fun d => Value.isStrOf z d.key).map (fun e => e.val) = some u ∧ es.lookup z = some (lo, hi) ∧ PairE K u lo hi) ∨ ((l.find? fun d => Value.isStrOf z d.key) = none ∧ es.lookup z = none)
  | _, _, .nil => .inr ⟨rfl, rfl⟩
  | _, _, .cons (e := e) (x := x) (lo := lo) (hi := hi) (t := t) h1 h2 r => by
    by_cases hz : z = x
    · subst hz
      refine .inl ⟨e.val, lo, hi, ?_, by simp [List.lookup], h2⟩
      rw [List.find?_cons_of_pos (by rw [h1]; simp [Value.isStrOf])]
      rfl
    · have hb : (z == x) = false := beq_eq_false_iff_ne.mpr hz
      rw [List.find?_cons_of_neg (by rw [h1]; simp [Value.isStrOf]; exact fun e => hz (by first | exact e | exact e.symm)), List.lookup_cons, hb]
      exact r.find
structure GVP (g : G0) (x : Str) (es : List (Str × Int × Int)) : Prop where
  ex : ∃ (a : Addr) (arr : Array DictEntry) (n : Nat), g.mg x = some (.ref a) ∧ g.K.lookup a = some ⟨.type "dict", none, .dict arr n, #[]⟩ ∧ PySem.W.KeysLit g.w.params arr.toList ∧ (a == sysModules) = false ∧ EntP g.K arr.toList es
theorem fb_arr {arr : Array DictEntry} (k : Str) : findBy Value.isStrOf arr k = (arr.toList.find? fun d => Value.isStrOf k d.key).map (fun e => e.val) := by
  unfold findBy
  obtain ⟨l⟩ := arr
  rw [List.find?_toArray]
def rInP (a : Addr) (es : List (Str × Int × Int)) : R2 := fun x y H Q => ∃ z, x = .str z ∧ y = .ref a ∧ Q (.bl (es.lookup z).isSome) H
theorem op_inP {X : Cx} {a : Addr} {arr : Array DictEntry} {n : Nat} {es : List (Str × Int × Int)} (hl : X.K.lookup a = some ⟨.type "dict", none, .dict arr n, #[]⟩) (hk : PySem.W.KeysLit X.w.params arr.toList) (hs : (a == sysModules) = false) (hE : EntP X.K arr.toList es) : OpR X (compareOp .In) (rInP a es) := by
  intro pins s σ H x y v u Q I rx ry h
  obtain ⟨z, rfl, rfl, q⟩ := h
  obtain ⟨t, rfl⟩ := rx
  cases ry
  refine wpAny_in_of (PySem.strKind_is X.prog X.w z t) hs (PySem.W.mapOf_K (prog := X.prog) I.kIn hl hk) ?_
  rw [fb_arr]
  rcases hE.find (z := z) with ⟨w, lo, hi, f1, f2, _⟩ | ⟨f1, f2⟩
  · rw [f1]
    rw [f2] at q
    exact ⟨.bl true, H, I.tok _, rfl, q⟩
  · rw [f1]
    rw [f2] at q
    exact ⟨.bl false, H, I.tok _, rfl, q⟩
def inPD (es : List (Str × Int × Int)) : List D → Option Vl
  | [.str z] => some (.im (.bl (es.lookup z).isSome))
  | _ => none
theorem et_inP {g : G0} {c : Ct} {e : Expr} {m : M Vl} {x : Str} {es : List (Str × Int × Int)} {p pos : Pos} (hg : GlC c x) (hm : GVP g x es) (h : EE g c e m) (hdb : (x == ("__debug__" : Str)) = false) (hb : behindInMarks .In (.Name x p) = false) : ET g c (.Compare e [.In] [.Name x p] pos) (mB (eP (inPD es) (cA m cN))) := by
  obtain ⟨t, h1, h2⟩ := h
  obtain ⟨a, arr, n, g1, g2, g3, g4, g5⟩ := hm.ex
  refine ⟨tTest (tOp (rInP a es) t (tC (.ref a))), fun X hX => ?_, fun A => st_val (sx_un (r := fun x H Q => rInP a es x (.ref a) H Q) (fun A B H vs env xs ds res Q S rr e q => ?_) (h2 A))⟩
  · exact pt_cmpR (op_inP (by rw [hX.eK]; exact g2) (by rw [hX.ew]; exact g3) g4 (by rw [hX.eK]; exact g5)) (h1 X hX) (pe_glob (gl_of hX hg) (by rw [hX.em]; exact g1) rfl hdb) hb
  · unfold inPD at e
    split at e
    · rename_i z
      cases e
      obtain ⟨y, rfl, r1⟩ := pr1 rr
      obtain ⟨rfl, _⟩ := r1.str
      exact ⟨z, rfl, rfl, q B H _ (Same.refl _) (.im S (.bl _))⟩
    · cases e
def rIxP (K : PySem.W.Frag) (a : Addr) (es : List (Str × Int × Int)) : R2 := fun x y H Q => ∃ z lo hi, x = .ref a ∧ y = .str z ∧ es.lookup z = some (lo, hi) ∧ ∀ b, SqT K H b [V.int lo, V.int hi] → Q (.ref b) H
theorem ix_pr {X : Cx} {a : Addr} {arr : Array DictEntry} {n : Nat} {es : List (Str × Int × Int)} (hl : X.K.lookup a = some ⟨.type "dict", none, .dict arr n, #[]⟩) (hk : PySem.W.KeysLit X.w.params arr.toList) (hE : EntP X.K arr.toList es) : IxR X (rIxP X.K a es) := by
  intro value slice pins s σ H x y v u Q I rx ry h hs
  obtain ⟨z, lo, hi, rfl, rfl, hz, q⟩ := h
  cases rx
  obtain ⟨t, rfl⟩ := ry
  have hM := PySem.W.mapOf_K (prog := X.prog) (w := X.w) I.kIn hl hk
  rcases hE.find (z := z) with ⟨w, lo', hi', f1, f2, hp⟩ | ⟨f1, f2⟩
  · rw [f2] at hz
    cases hz
    obtain ⟨b, o, its, k, rfl, k1, k2, k3, k4, k5⟩ := hp
    refine tail_any hM.typeIs PySem.F.slot_dict_getitem.lookup (wpAny_getItem_of (v := .ref b) (PySem.strKind_is X.prog X.w z t) hM (by rw [fb_arr]; exact f1) ?_) hs
    exact ⟨.ref b, H, I.tok _, rfl, q b (.inr ⟨o, its, k, k1, k2, k3, k4, k5⟩)⟩
  · rw [f2] at hz
    cases hz
def bixD (es : List (Str × Int × Int)) (i : Int) : List D → Option Vl
  | [.str z] => match es.lookup z with
    | some (lo, hi) => if i = 0 then some (.im (.int lo)) else if i = 1 then some (.im (.int hi)) else none
    | none => none
  | _ => none
theorem ee_bix {g : G0} {c : Ct} {e : Expr} {m : M Vl} {x : Str} {es : List (Str × Int × Int)} {i : Int} {j} {p p1 p2 p3 : Pos} (hg : GlC c x) (hm : GVP g x es) (h : EE g c e m) (hdb : (x == ("__debug__" : Str)) = false) (hs : PlainIx e) (hs2 : PlainIx (.Constant (.int i) j p3)) :
    EE g c (.Subscript (.Subscript (.Name x p) e p1) (.Constant (.int i) j p3) p2) (eP (bixD es i) (cA m cN)) := by
  obtain ⟨t, h1, h2⟩ := h
  obtain ⟨a, arr, n, g1, g2, g3, g4, g5⟩ := hm.ex
  refine ⟨tOp (rIxA g.K) (tOp (rIxP g.K a es) (tC (.ref a)) t) (tC (.int i)), fun X hX => ?_, fun A => ?_⟩
  · have hix : IxR X (rIxA g.K) := by
      rw [← hX.eK]
      exact ix_any (hu_of hX.room)
    have hip : IxR X (rIxP g.K a es) := by
      rw [← hX.eK]
      exact ix_pr (by rw [hX.eK]; exact g2) (by rw [hX.ew]; exact g3) (by rw [hX.eK]; exact g5)
    exact pe_ix hix (pe_ix hip (pe_glob (gl_of hX hg) (by rw [hX.em]; exact g1) rfl hdb) (h1 X hX) hs) pe_int hs2
  · exact sx_un (r := fun y H Q => rIxP g.K a es (.ref a) y H fun v H1 => rIxA g.K v (.int i) H1 Q) (fun A B H vs env xs ds res Q S rr e q => by
      unfold bixD at e
      split at e
      · rename_i z
        obtain ⟨y, rfl, r1⟩ := pr1 rr
        obtain ⟨rfl, _⟩ := r1.str
        split at e
        · rename_i lo hi hz
          refine ⟨z, lo, hi, rfl, rfl, hz, fun b hb => ?_⟩
          split at e
          · rename_i h0
            subst h0
            cases e
            exact .inl (.inr ⟨b, _, _, .int lo, rfl, rfl, hb, rfl, q B H _ (Same.refl _) (.im S (.int _))⟩)
          · split at e
            · rename_i h1
              subst h1
              cases e
              exact .inl (.inr ⟨b, _, _, .int hi, rfl, rfl, hb, rfl, q B H _ (Same.refl _) (.im S (.int _))⟩)
            · cases e
        · cases e
      · cases e) (h2 A)
end PD
namespace PD
variable [PD.TabL]
open PySem PySem.Spec PyProof.Rows L2
def zipCO (tbl : List (Str × List Str)) : List D → Option (List D)
  | [x, y] => match seqC tbl x, seqD y with
    | some a, some b => some (zipD a b)
    | _, _ => none
  | _ => none
theorem W_mZipC {tbl : List (Str × List Str)} {e : Env} {ms : M (List Vl)} {Q : List D → Env → Prop} : @W _ (mZipC tbl ms) e ⟨Q⟩ = @W _ ms e ⟨fun rs e1 => @W _ (frzs rs) e1 ⟨fun ds e2 => @WO _ (zipCO tbl ds) ⟨fun l => Q l e2⟩⟩⟩ := by
  unfold mZipC
  simp only [W_eq, WO_eq, bd]
  cases ms e with
  | none => rfl
  | some p =>
    dsimp only
    cases frzs p.1 p.2 with
    | none => rfl
    | some w =>
      dsimp only
      unfold zipCO
      match w.1 with
      | [] => rfl
      | [_] => rfl
      | [x, y] =>
        dsimp only
        cases seqC tbl x with
        | none => rfl
        | some a =>
          cases seqD y with
          | none => rfl
          | some b => rfl
      | _ :: _ :: _ :: _ => rfl
theorem zipCO_cl {tbl : List (Str × List Str)} {n : Str} {r : List Str} (h : tbl.lookup n = some r) (b : List D) : zipCO tbl [.cl n, .lst b] = some (zipD (r.map D.str) b) := by
  unfold zipCO seqC
  dsimp only
  rw [h]
  rfl
theorem cget_in {es : List Str} {z : Str} (h : z ∈ es) : cgetD es [.str z] = some (.im (.cl z)) := if_pos h
theorem lenC_at {tbl : List (Str × List Str)} {n : Str} {r : List Str} (h : tbl.lookup n = some r) : lenCD tbl [.cl n] = some (.im (.int (r.length : Int))) := by
  unfold lenCD
  dsimp only
  rw [h]
  rfl
theorem bix_lo {es : List (Str × Int × Int)} {z : Str} {lo hi : Int} (h : es.lookup z = some (lo, hi)) : bixD es 0 [.str z] = some (.im (.int lo)) := by
  unfold bixD
  dsimp only
  rw [h]
  rfl
theorem bix_hi {es : List (Str × Int × Int)} {z : Str} {lo hi : Int} (h : es.lookup z = some (lo, hi)) : bixD es 1 [.str z] = some (.im (.int hi)) := by
  unfold bixD
  dsimp only
  rw [h]
  rfl
end PD
namespace PD
open PySem PySem.Spec PyProof.Rows L2
inductive EntA : List DictEntry → List Str → List Addr → Prop
  | nil : EntA [] [] []
  | cons {e : DictEntry} {r : List DictEntry} {x : Str} {a : Addr} {t : Tok} {ks : List Str} {as : List Addr} : e.key = .str x t → e.val = .ref a → EntA r ks as → EntA (e :: r) (x :: ks) (a :: as)
theorem lookup_zip {n : Str} {a : Addr} : ∀ {ks : List Str} {as : List Addr}, ks.Nodup → (n, a) ∈ ks.zip as → (ks.zip as).lookup n = some a
  | [], _, _, h => by simp at h
  | _ :: _, [], _, h => by simp at h
  | k :: ks, b :: as, hn, h => by
    rw [List.zip_cons_cons, List.lookup_cons]
    rw [List.zip_cons_cons] at h
    obtain ⟨h1, h2⟩ := List.nodup_cons.mp hn
    rcases List.mem_cons.mp h with e | h
    · cases e
      simp
    · have hk : n ∈ ks := (List.of_mem_zip h).1
      have hb : (n == k) = false := beq_eq_false_iff_ne.mpr fun e => h1 (e ▸ hk)
      rw [hb]
      exact lookup_zip h2 h
theorem entC_of' {L : List (Str × Addr)} : ∀ {l : List DictEntry} {ks : List Str} {as : List Addr}, EntA l ks as → (∀ n a, (n, a) ∈ ks.zip as → clsL L n = some a) → EntC (clsL L) l ks
  | _, _, _, .nil, _ => .nil
  | _, _, _, .cons (x := x) (a := a) h1 h2 r, h => .cons h1 h2 (h x a (by simp)) (entC_of' r fun n b hb => h n b (by rw [List.zip_cons_cons]; exact List.mem_cons_of_mem _ hb))
theorem entC_of {l : List DictEntry} {ks : List Str} {as : List Addr} (h : EntA l ks as) (hn : ks.Nodup) : EntC (clsL (ks.zip as)) l ks := entC_of' h fun _ _ h => lookup_zip hn h
structure RowAt (K : PySem.W.Frag) (a : Addr) (r : List Str) : Prop where
  sk : ∀ x ∈ r, PyData.strOk x = true
  ex : ∃ (o : Obj) (its : Array Value) (k : Nat), K.lookup a = some o ∧ o.cls = .type "tuple" ∧ o.data = .seq its k ∧ its.size ≤ sizeLine ∧ Vals (r.map V.str) its.toList
theorem rowAt_mk {K : PySem.W.Frag} {a : Addr} {r : List Str} {ob : Obj} {oo : Option Addr} {its : Array Value} {mm : Nat} {ss : Array (Option Value)} (h1 : K.lookup a = some ob) (h2 : ob = ⟨.type "tuple", oo, .seq its mm, ss⟩) (h3 : Vals (r.map V.str) its.toList) (h4 : its.size ≤ sizeLine) (h5 : r.all PyData.strOk = true) : RowAt K a r :=
  ⟨fun x hx => List.all_eq_true.mp h5 x hx, _, _, _, h2 ▸ h1, rfl, rfl, h4, h3⟩
inductive RowsAt (K : PySem.W.Frag) : List Addr → List (Str × List Str) → Prop
  | nil : RowsAt K [] []
  | cons {a : Addr} {n : Str} {r : List Str} {as : List Addr} {t : List (Str × List Str)} : RowAt K a r → RowsAt K as t → RowsAt K (a :: as) ((n, r) :: t)
theorem RowsAt.get {K : PySem.W.Frag} {n : Str} {r : List Str} : ∀ {as : List Addr} {t : List (Str × List Str)}, RowsAt K as t → t.lookup n = some r → ∃ a, (n, a) ∈ (t.map (·.1)).zip as ∧ RowAt K a r
  | _, _, .nil, h => by cases h
  | _, _, .cons (a := a) (n := m) h1 h2, h => by
    rw [List.lookup_cons] at h
    split at h
    · rename_i hb
      cases h
      rw [beq_iff_eq.mp hb]
      exact ⟨a, by simp, h1⟩
    · obtain ⟨b, h3, h4⟩ := h2.get h
      exact ⟨b, by rw [List.map_cons, List.zip_cons_cons]; exact List.mem_cons_of_mem _ h3, h4⟩
theorem tabR_of {K : PySem.W.Frag} {ks : List Str} {as : List Addr} {sc} {oc} {nc} {kt} {tbl : List (Str × List Str)} (hk : tbl.map (·.1) = ks) (hn : ks.Nodup) (h : RowsAt K as tbl) : @TabR ⟨sc, clsL (ks.zip as), oc, nc, kt⟩ K tbl := by
  intro n r e
  obtain ⟨a, h1, h2⟩ := h.get e
  rw [hk] at h1
  obtain ⟨o, its, k, h3, h4, h5, h6, h7⟩ := h2.ex
  exact ⟨h2.sk, a, o, its, k, lookup_zip hn h1, h3, h4, h5, h6, h7⟩
theorem pairE_mk {K : PySem.W.Frag} {a : Addr} {lo hi : Int} {ob : Obj} {oo : Option Addr} {t t2 : Tok} {mm : Nat} {ss : Array (Option Value)} (h1 : K.lookup a = some ob) (h2 : ob = ⟨.type "tuple", oo, .seq #[.int lo t, .int hi t2] mm, ss⟩) : PairE K (.ref a) lo hi :=
  ⟨a, _, _, _, rfl, h2 ▸ h1, rfl, rfl, by show 2 ≤ sizeLine; decide, .cons ⟨_, rfl⟩ (.cons ⟨_, rfl⟩ .nil)⟩
inductive PairsAt (K : PySem.W.Frag) : List Addr → List (Str × Int × Int) → Prop
  | nil : PairsAt K [] []
  | cons {a : Addr} {n : Str} {lo hi : Int} {as : List Addr} {t : List (Str × Int × Int)} : PairE K (.ref a) lo hi → PairsAt K as t → PairsAt K (a :: as) ((n, lo, hi) :: t)
theorem entP_of {K : PySem.W.Frag} : ∀ {l : List DictEntry} {ks : List Str} {as : List Addr} {t : List (Str × Int × Int)}, EntA l ks as → PairsAt K as t → t.map (·.1) = ks → EntP K l t
  | _, _, _, _, .nil, .nil, _ => .nil
  | _, _, _, _, .cons h1 h2 r, .cons h3 h4, e => by
    obtain ⟨rfl, e2⟩ := List.cons.inj e
    exact .cons h1 (by rw [h2]; exact h3) (entP_of r h4 e2)
end PD
namespace PD
variable [PD.TabL]
open PySem PySem.Spec PyProof.Rows L2
def mulSD : List D → Option Vl
  | [.str x, .int k] => if (decide (0 ≤ k) && decide (k < 1000) && small (x.length * 1000)) = true then some (.im (.str (timesS x k.toNat))) else none
  | _ => none
def rRepS0 : R2 := fun x y H Q => ∃ z k, x = .str z ∧ y = .int k ∧ 0 ≤ k ∧ k < 1000 ∧ z.length * 1000 ≤ sizeLine ∧ Q (.str (timesS z k.toNat)) H
theorem timesS_1 (z : Str) : timesS z 1 = z := by
  obtain ⟨c⟩ := z
  simp [timesS]
theorem op_repS0 {X : Cx} : OpR X (binaryOp .Mult) rRepS0 := by
  intro pins s σ H x y v u Q I rx ry h
  obtain ⟨z, k, rfl, rfl, h1, h2, hz, q⟩ := h
  obtain ⟨t, rfl⟩ := rx
  obtain ⟨t', rfl⟩ := ry
  by_cases hk0 : k < 1
  · have e : k = 0 := by omega
    subst e
    refine PySem.P.mul_str_none (by decide) (by decide) ?_
    exact ⟨.str _, H, I.tok _, ⟨_, rfl⟩, q⟩
  have zl : z.length * k.toNat ≤ sizeLine := Nat.le_trans (Nat.mul_le_mul_left _ (by omega)) hz
  have e0 : timesS z k.toNat = ⟨(List.replicate k.toNat z.cps).foldl (· ++ ·) #[]⟩ := by
    rw [rep_fold]
    simp [timesS]
  have fits : (timesS z k.toNat).length ≤ sizeLine := by
    have : (timesS z k.toNat).length = k.toNat * z.length := by
      show ((List.replicate k.toNat z.cps.toList).flatten).toArray.size = _
      simp [Str.length]
    rw [this, Nat.mul_comm]
    exact zl
  refine PySem.P.mul_str (by rw [Bool.or_eq_false_iff]; exact ⟨decide_eq_false (by omega), decide_eq_false (by omega)⟩) (fun _ _ => ?_) (fun _ _ => ?_) ?_
  · have h9 : sizeLine = 16777216 := rfl
    have h5 : (2 : Int) ^ 63 - 1 = 9223372036854775807 := by decide
    rw [h5]
    have h6 : (z.length : Int) ≤ 16777 := by omega
    have h7 : (16777 : Int) ≤ 9223372036854775807 / k := by
      rw [Int.le_ediv_iff_mul_le (by omega)]
      have : (16777 : Int) * k ≤ 16777 * 1000 := Int.mul_le_mul_of_nonneg_left (by omega) (by decide)
      omega
    omega
  · exact decide_eq_false (by omega)
  · rw [if_neg (by omega)]
    split
    · rename_i hc
      rcases Bool.or_eq_true_iff.mp hc with hc | hc
      · have : k = 1 := by simpa using hc
        subst this
        have e1 : timesS z (1 : Int).toNat = z := timesS_1 z
        rw [e1] at q
        exact ⟨.str z, H, I, ⟨_, rfl⟩, q⟩
      · have hz0 : z.length = 0 := by simpa using hc
        have : timesS z k.toNat = z := by
          have : z = ⟨#[]⟩ := by
            obtain ⟨c⟩ := z
            have : c = #[] := by simpa [Str.length] using hz0
            rw [this]
          rw [this]
          simp [timesS]
        rw [this] at q
        exact ⟨.str z, H, I, ⟨_, rfl⟩, q⟩
    · rw [← e0]
      exact ⟨fits, ⟨.str _, H, I.tok _, ⟨_, rfl⟩, q⟩⟩
theorem op_mulSD {g : G0} : OpI g (binaryOp .Mult) mulSD := by
  refine ⟨rRepS0, fun c X hX => op_repS0, fun A B H vs env xs ds res Q S rr e q => ?_⟩
  unfold mulSD at e
  split at e
  · split at e
    · rename_i hs
      cases e
      simp only [Bool.and_eq_true, decide_eq_true_eq] at hs
      obtain ⟨⟨h1, h2⟩, h3⟩ := hs
      obtain ⟨x, y, rfl, r1, r2⟩ := pr2 rr
      obtain ⟨rfl, ho⟩ := r1.str
      exact ⟨_, _, rfl, r2.int, h1, h2, by simpa [small] using h3, q B H _ (Same.refl _) (.im S (.str _ (ok_times ho)))⟩
    · cases e
  · cases e
theorem mulS_sem {x : Str} {k : Int} (h0 : 0 ≤ k) (h1 : k < 1000) (hx : x.length ≤ 16000) : mulSD [.str x, .int k] = some (.im (.str (timesS x k.toNat))) := by
  have h2 : small (x.length * 1000) = true := small_lit (by omega)
  show (if _ then _ else _) = _
  rw [h2, decide_eq_true h0, decide_eq_true h1]
  rfl
end PD
namespace L_k75
open PySem PySem.Spec PyProof.Rows L2 PD
variable [PD.TabL]
def topS (i : Nat) : Stmt := PySem.Challenge.pw_wetfields_k75_rows_read.main.body.getD i (.Pass ⟨0, 0, 0, 0⟩)
abbrev s__law_box : Stmt := topS 21
abbrev s__law_take : Stmt := topS 22
abbrev s__law_words : Stmt := topS 23
abbrev s__law_text : Stmt := topS 24
abbrev s__law_row : Stmt := topS 25
abbrev s__law_loose : Stmt := topS 27
abbrev s__law_same : Stmt := topS 26
abbrev s_number_in : Stmt := topS 15
abbrev s_is_name : Stmt := topS 3
abbrev s_names_in : Stmt := topS 16
abbrev s_are_rising : Stmt := topS 4
abbrev s_thing_in : Stmt := topS 17
abbrev s_may_be : Stmt := topS 18
abbrev s_read_row : Stmt := topS 19
abbrev s_law : Stmt := topS 28
theorem bt_abs : bootBuiltins "abs" = some (.builtin "abs") := by decide +kernel
theorem bt_all : bootBuiltins "all" = some (.builtin "all") := by decide +kernel
theorem bt_bool : bootBuiltins "bool" = some (.type "bool") := by decide +kernel
theorem bt_int : bootBuiltins "int" = some (.type "int") := by decide +kernel
theorem bt_isinstance : bootBuiltins "isinstance" = some (.builtin "isinstance") := by decide +kernel
theorem bt_len : bootBuiltins "len" = some (.builtin "len") := by decide +kernel
theorem bt_list : bootBuiltins "list" = some (.type "list") := by decide +kernel
theorem bt_max : bootBuiltins "max" = some (.builtin "max") := by decide +kernel
theorem bt_min : bootBuiltins "min" = some (.builtin "min") := by decide +kernel
theorem bt_sorted : bootBuiltins "sorted" = some (.builtin "sorted") := by decide +kernel
theorem bt_str : bootBuiltins "str" = some (.type "str") := by decide +kernel
theorem bt_tuple : bootBuiltins "tuple" = some (.type "tuple") := by decide +kernel
abbrev ky_FORMS : List Str := ["field", "gate", "begin", "rain", "sun", "lend", "let", "shut", "wet", "dry", "nowet", "nodry", "breach", "mend", "undo", "stands", "rows", "holder", "owing", "payback", "fault", "plan", "drowns", "lost"]
abbrev tb_FORMS : List (Str × List Str) := [("field", ["name", "name", "below", "water", "sky"]), ("gate", ["name", "water", "owners", "fields"]), ("begin", []), ("rain", ["day", "sky"]), ("sun", ["day", "sky"]), ("lend", ["day", "name", "name", "name"]), ("let", ["day", "name", "name", "water"]), ("shut", ["day", "name", "name"]), ("wet", ["name", "day", "day", "water"]), ("dry", ["name", "day", "day"]), ("nowet", ["name", "day", "day", "water"]), ("nodry", ["name", "day", "day"]), ("breach", ["day", "name", "level"]), ("mend", ["day", "name"]), ("undo", []), ("stands", ["day"]), ("rows", ["day", "name"]), ("holder", ["day", "name"]), ("owing", []), ("payback", ["name", "name", "day", "day"]), ("fault", []), ("plan", []), ("drowns", ["day", "name", "level"]), ("lost", [])]
abbrev pr_BOUNDS : List (Str × Int × Int) := [("day", 0, 39), ("water", 1, 999), ("sky", 0, 99), ("level", 0, 998)]
structure Hyp (g : G0) : Prop where
  d__law_box : DefAt g "_law_box" s__law_box ["_law_script", "_law_k"]
  d__law_take : DefAt g "_law_take" s__law_take ["_law_box_here", "_law_many"]
  d__law_words : DefAt g "_law_words" s__law_words ["_law_box_here", "_law_many"]
  d__law_text : DefAt g "_law_text" s__law_text ["_law_row_here"]
  d__law_row : DefAt g "_law_row" s__law_row ["_law_box_here", "_law_names", "_law_word"]
  d__law_loose : DefAt g "_law_loose" s__law_loose ["_law_box_here", "_law_text_here"]
  d__law_same : DefAt g "_law_same" s__law_same ["_law_found", "_law_due"]
  d_number_in : DefAt g "number_in" s_number_in ["word", "least", "most"]
  d_is_name : DefAt g "is_name" s_is_name ["thing"]
  d_names_in : DefAt g "names_in" s_names_in ["word", "most"]
  d_are_rising : DefAt g "are_rising" s_are_rising ["things"]
  d_thing_in : DefAt g "thing_in" s_thing_in ["form", "word"]
  d_may_be : DefAt g "may_be" s_may_be ["row"]
  d_read_row : DefAt g "read_row" s_read_row ["row"]
  c_FIGURES : GV g "FIGURES" (.str "0123456789")
  c_LETTERS : GV g "LETTERS" (.str "abcdefghijklmnopqrstuvwxyz")
  c_LONGEST : GV g "LONGEST" (.int 6)
  c_MOST_DAYS : GV g "MOST_DAYS" (.int 10)
  c_MOST_FIELDS : GV g "MOST_FIELDS" (.int 8)
  c_MOST_RIGHTS : GV g "MOST_RIGHTS" (.int 12)
  kc_FORMS : GVC g "FORMS" ky_FORMS
  tr_FORMS : TabR g.K tb_FORMS
  kp_BOUNDS : GVP g "BOUNDS" pr_BOUNDS
  z_abs : g.mg "abs" = none
  z_all : g.mg "all" = none
  z_bool : g.mg "bool" = none
  z_int : g.mg "int" = none
  z_isinstance : g.mg "isinstance" = none
  z_len : g.mg "len" = none
  z_list : g.mg "list" = none
  z_max : g.mg "max" = none
  z_min : g.mg "min" = none
  z_range : g.mg "range" = none
  z_sorted : g.mg "sorted" = none
  z_str : g.mg "str" = none
  z_tuple : g.mg "tuple" = none
  z_zip : g.mg "zip" = none
theorem sc__law_box : FnScope ["_law_script", "_law_k", "_law_cell"] ["_law_script", "_law_k"] (defScope s__law_box) := ⟨rfl, rfl, rfl, by decide +kernel, rfl, by decide +kernel, by decide +kernel⟩
def b__law_box : SM := (sSeq (sAsg (eC (.int 0)) (gN 2))
    (sSeq (sIf (mB (eP ltD (cA (eV 1) (cA (eP lenD (cA (eV 0) cN)) cN)))) (sSeq (sAsg (eP ixD (cA (eV 0) (cA (eV 1) cN))) (gN 2))
    sNil) sNil)
    (sSeq (sRet (eLst (cA (eP mulD (cA (eP absD (cA (eV 2) cN)) (cA (eP intD (cA (eP geD (cA (eP absD (cA (eV 2) cN)) (cA (eP powD (cA (eC (.int 10)) (cA (eC (.int 18)) cN))) cN))) cN)) cN))) (cA (eP addD (cA (eP addD (cA (eP modD (cA (eV 2) (cA (eC (.int 2147483629)) cN))) (cA (eP mulD (cA (eC (.int 7919)) (cA (eV 1) cN))) cN))) (cA (eC (.int 11)) cN))) (cA (eC (.int 0)) cN)))))
    sNil)))
def F__law_box : Fs := ⟨runF [false, false] 3 b__law_box, [false, false]⟩
theorem sem__law_box (ds : List D) : F__law_box.sem ds = runF [false, false] 3 b__law_box ds := rfl
theorem sig__law_box : F__law_box.sig = [false, false] := rfl
theorem fn__law_box {g : G0} (h : Hyp g) : FnI g "_law_box" 1 F__law_box :=
  fn_rule h.d__law_box sc__law_box rfl (es_cons (es_set (i := 2) rfl (by first | exact .inl rfl | exact .inr rfl) ee_int (fun _ => rfl) (.inl rfl))
    (es_cons (es_if (et_cmp op_ltD (vv (i := 1)) (ee_callB ca_len rfl h.z_len bt_len (ea_cons (vv (i := 0)) ea_nil (fun _ _ => rfl)) (fun _ _ => rfl) (fun _ => rfl) (by decide) (by decide)) rfl) (es_cons (es_set (i := 2) rfl (by first | exact .inl rfl | exact .inr rfl) (ee_ix (vv (i := 0)) (vv (i := 1)) (fun _ _ => rfl)) (fun _ => rfl) (.inl rfl))
    es_nil) es_nil)
    (es_cons (es_ret (ee_lst (ea_cons (ee_bin op_mulD (ee_callB ca_abs rfl h.z_abs bt_abs (ea_cons (vv (i := 2)) ea_nil (fun _ _ => rfl)) (fun _ _ => rfl) (fun _ => rfl) (by decide) (by decide)) (ee_callTy ca_int rfl h.z_int bt_int (ea_cons (ee_cmp op_geD (ee_callB ca_abs rfl h.z_abs bt_abs (ea_cons (vv (i := 2)) ea_nil (fun _ _ => rfl)) (fun _ _ => rfl) (fun _ => rfl) (by decide) (by decide)) (ee_bin op_powD ee_int ee_int) rfl) ea_nil (fun _ _ => rfl)) (fun _ _ => rfl) (fun _ => rfl) (by decide) (by decide))) (ea_cons (ee_bin op_addD (ee_bin op_addD (ee_bin op_modD (vv (i := 2)) ee_int) (ee_bin op_mulD ee_int (vv (i := 1)))) ee_int) (ea_cons ee_int ea_nil (fun _ _ => rfl)) (fun _ _ => rfl)) (fun _ _ => rfl))))
    es_nil)))
theorem sc__law_take : FnScope ["_law_box_here", "_law_many", "_law_once", "_law_found"] ["_law_box_here", "_law_many"] (defScope s__law_take) := ⟨rfl, rfl, rfl, by decide +kernel, rfl, by decide +kernel, by decide +kernel⟩
def b__law_take : SM := (sSeq (sIf (mB (eP gtD (cA (eP ixD (cA (eV 0) (cA (eC (.int 0)) cN))) (cA (eC (.int 0)) cN)))) (sSeq (sAsg (eP modD (cA (eP ixD (cA (eV 0) (cA (eC (.int 0)) cN))) (cA (eV 1) cN))) (gN 3))
    (sSeq (sAsg (eP divD (cA (eP ixD (cA (eV 0) (cA (eC (.int 0)) cN))) (cA (eV 1) cN))) (gS setDk (eV 0) (eC (.int 0))))
    (sSeq (sRet (eV 3))
    sNil))) sNil)
    (sSeq (sAsg (eP addD (cA (eP ixD (cA (eV 0) (cA (eC (.int 2)) cN))) (cA (eC (.int 1)) cN))) (gS setDk (eV 0) (eC (.int 2))))
    (sSeq (sAsg (eP modD (cA (eP powD (cA (eP addD (cA (eP ixD (cA (eV 0) (cA (eC (.int 1)) cN))) (cA (eP mulD (cA (eC (.int 39373)) (cA (eP ixD (cA (eV 0) (cA (eC (.int 2)) cN))) cN))) cN))) (cA (eC (.int 5)) cN))) (cA (eC (.int 2147483647)) cN))) (gN 2))
    (sSeq (sRet (eP modD (cA (eP divD (cA (eP modD (cA (eP addD (cA (eP mulD (cA (eV 2) (cA (eP addD (cA (eP modD (cA (eV 2) (cA (eC (.int 40009)) cN))) (cA (eC (.int 7)) cN))) cN))) (cA (eP mulD (cA (eP ixD (cA (eV 0) (cA (eC (.int 2)) cN))) (cA (eC (.int 7919)) cN))) cN))) (cA (eC (.int 2147483629)) cN))) (cA (eC (.int 64)) cN))) (cA (eV 1) cN))))
    sNil))))
def F__law_take : Fs := ⟨runF [true, false] 4 b__law_take, [true, false]⟩
theorem sem__law_take (ds : List D) : F__law_take.sem ds = runF [true, false] 4 b__law_take ds := rfl
theorem sig__law_take : F__law_take.sig = [true, false] := rfl
theorem fn__law_take {g : G0} (h : Hyp g) : FnI g "_law_take" 1 F__law_take :=
  fn_rule h.d__law_take sc__law_take rfl (es_cons (es_if (et_cmp op_gtD (ee_ix (vv (i := 0)) ee_int (fun _ _ => rfl)) ee_int rfl) (es_cons (es_set (i := 3) rfl (by first | exact .inl rfl | exact .inr rfl) (ee_bin op_modD (ee_ix (vv (i := 0)) ee_int (fun _ _ => rfl)) (vv (i := 1))) (fun _ => rfl) (.inl rfl))
    (es_cons (es_asg (ee_bin op_divD (ee_ix (vv (i := 0)) ee_int (fun _ _ => rfl)) (vv (i := 1))) (eg_sub se_any (vv (i := 0)) ee_int (fun _ _ => rfl)) (fun _ => rfl) (fun env he => by cases env; cases he; rfl) (fun _ => rfl))
    (es_cons (es_ret (vv (i := 3)))
    es_nil))) es_nil)
    (es_cons (es_asg (ee_bin op_addD (ee_ix (vv (i := 0)) ee_int (fun _ _ => rfl)) ee_int) (eg_sub se_any (vv (i := 0)) ee_int (fun _ _ => rfl)) (fun _ => rfl) (fun env he => by cases env; cases he; rfl) (fun _ => rfl))
    (es_cons (es_set (i := 2) rfl (by first | exact .inl rfl | exact .inr rfl) (ee_bin op_modD (ee_bin op_powD (ee_bin op_addD (ee_ix (vv (i := 0)) ee_int (fun _ _ => rfl)) (ee_bin op_mulD ee_int (ee_ix (vv (i := 0)) ee_int (fun _ _ => rfl)))) ee_int) ee_int) (fun _ => rfl) (.inl rfl))
    (es_cons (es_ret (ee_bin op_modD (ee_bin op_divD (ee_bin op_modD (ee_bin op_addD (ee_bin op_mulD (vv (i := 2)) (ee_bin op_addD (ee_bin op_modD (vv (i := 2)) ee_int) ee_int)) (ee_bin op_mulD (ee_ix (vv (i := 0)) ee_int (fun _ _ => rfl)) ee_int)) ee_int) ee_int) (vv (i := 1))))
    es_nil))))
theorem sc__law_words : FnScope ["_law_box_here", "_law_many", "_law_letters", "_law_found", "_law_own", "_law_k", "_law_size", "_law_name", "_law_way", "_law_j", "_law_one"] ["_law_box_here", "_law_many"] (defScope s__law_words) := ⟨rfl, rfl, rfl, by decide +kernel, rfl, by decide +kernel, by decide +kernel⟩
def ce__law_words_1 : M Vl := (eP addD (cA (eSl (eV 7) oN (oS (eC (.int 5)))) (cA (eV 10) cN)))
def cp__law_words_1 : M Vl := eComp [10] (mStr (eV 2)) (gN 10) (rt true) ce__law_words_1
def ce__law_words_2 : M Vl := (eV 10)
def cp__law_words_2 : M Vl := eComp [10] (mLst (eP addD (cA (eLst (cA (eV 7) cN)) (cA cp__law_words_1 cN)))) (gN 10) (mB (eP notInD (cA (eV 10) (cA (eV 3) cN)))) ce__law_words_2
def ce__law_words_3 : M Vl := (eP ixD (cA (eV 2) (cA (eCallF F__law_take (cA (eV 0) (cA (eC (.int 26)) cN))) cN)))
def cp__law_words_3 : M Vl := eComp [9] (mR1 (cA (eV 6) cN)) (gN 9) (rt true) ce__law_words_3
def fb__law_words_4 : SM := (sSeq (sAsg (eP ixD (cA (eLst (cA (eC (.int 1)) (cA (eC (.int 6)) (cA (eC (.int 2)) cN)))) (cA (eCallF F__law_take (cA (eV 0) (cA (eC (.int 3)) cN))) cN))) (gN 6))
    (sSeq (sAsg (eM "str" joinD (eC (.str "")) (cA cp__law_words_3 cN)) (gN 7))
    (sSeq (sAsg (eCallF F__law_take (cA (eV 0) (cA (eC (.int 4)) cN))) (gN 8))
    (sSeq (sIf (mB (eP eqD (cA (eV 8) (cA (eC (.int 0)) cN)))) (sSeq (sAsg (eP ixD (cA (eV 4) (cA (eCallF F__law_take (cA (eV 0) (cA (eP lenD (cA (eV 4) cN)) cN))) cN))) (gN 7))
    sNil) (sSeq (sIf (mAnd (mB (eP eqD (cA (eV 8) (cA (eC (.int 1)) cN)))) (mB (eP neD (cA (eV 3) (cA (eLst cN) cN))))) (sSeq (sAsg (eP addD (cA (eSl (eP ixD (cA (eV 3) (cA (eCallF F__law_take (cA (eV 0) (cA (eP lenD (cA (eV 3) cN)) cN))) cN))) oN (oS (eC (.int 5)))) (cA (eP ixD (cA (eV 2) (cA (eCallF F__law_take (cA (eV 0) (cA (eC (.int 26)) cN))) cN))) cN))) (gN 7))
    sNil) sNil)
    sNil))
    (sSeq (sExp (eU "list" appendD (eV 3) (cA (eP ixD (cA cp__law_words_2 (cA (eC (.int 0)) cN))) cN)))
    sNil)))))
def fl__law_words_4 : SM := sFor (mR1 (cA (eV 1) cN)) (gN 5) fb__law_words_4
def b__law_words : SM := (sSeq (sPF 2 3 (eC (.str "abcdefghijklmnopqrstuvwxyz")) (eLst cN))
    (sSeq (sAsg (eM "str" splitD (eC (.str "field gate begin rain sun lend let shut wet dry nowet nodry mend undo stands rows")) (cA (eC (.str " ")) cN)) (gN 4))
    (sSeq (sAsg (eP addD (cA (eV 4) (cA (eM "str" splitD (eC (.str "holder owing fault plan drowns lost none even done used clash lack bar")) (cA (eC (.str " ")) cN)) cN))) (gN 4))
    (sSeq fl__law_words_4
    (sSeq (sRet (eV 3))
    sNil)))))
def F__law_words : Fs := ⟨runF [true, false] 11 b__law_words, [true, false]⟩
theorem sem__law_words (ds : List D) : F__law_words.sem ds = runF [true, false] 11 b__law_words ds := rfl
theorem sig__law_words : F__law_words.sig = [true, false] := rfl
theorem fn__law_words {g : G0} (h : Hyp g) : FnI g "_law_words" 2 F__law_words :=
  fn_rule h.d__law_words sc__law_words rfl (es_cons (es_pfc (i := 2) (j := 3) rfl rfl (by decide) (by first | exact .inl rfl | exact .inr rfl) (by first | exact .inl rfl | exact .inr rfl) rfl rfl (ee_str (by decide +kernel)) (ee_lst ea_nil) (fun _ _ => rfl) (fun _ _ => rfl) (fun env he => by cases env; cases he; rfl) (fun _ => rfl))
    (es_cons (es_set (i := 4) rfl (by first | exact .inl rfl | exact .inr rfl) (ee_meth me_split (ee_str (by decide +kernel)) (ea_cons (ee_str (by decide +kernel)) ea_nil (fun _ _ => rfl)) (fun _ _ => rfl) (fun _ => rfl) (fun _ => rfl) rfl (fun _ => rfl)) (fun _ => rfl) (.inl rfl))
    (es_cons (es_set (i := 4) rfl (by first | exact .inl rfl | exact .inr rfl) (ee_bin op_addD (vv (i := 4)) (ee_meth me_split (ee_str (by decide +kernel)) (ea_cons (ee_str (by decide +kernel)) ea_nil (fun _ _ => rfl)) (fun _ _ => rfl) (fun _ => rfl) (fun _ => rfl) rfl (fun _ => rfl))) (fun _ => rfl) (.inl rfl))
    (es_cons (es_for (ei_r1 rfl h.z_range (ea_cons (vv (i := 1)) ea_nil (fun _ _ => rfl)) (fun _ _ => rfl)) (eg_name (i := 5) rfl (by first | exact .inl rfl | exact .inr rfl) (by first | exact .inl rfl | exact .inr rfl)) (es_cons (es_set (i := 6) rfl (by first | exact .inl rfl | exact .inr rfl) (ee_ix (ee_lst (ea_cons ee_int (ea_cons ee_int (ea_cons ee_int ea_nil (fun _ _ => rfl)) (fun _ _ => rfl)) (fun _ _ => rfl))) (ee_callF (fn__law_take h) (by decide) rfl (ea_cons (vv (i := 0)) (ea_cons ee_int ea_nil (fun _ _ => rfl)) (fun _ _ => rfl)) (fun _ _ => rfl) (fun _ => rfl) (by decide)) (fun _ _ => rfl)) (fun _ => rfl) (.inl rfl))
    (es_cons (es_set (i := 7) rfl (by first | exact .inl rfl | exact .inr rfl) (ee_meth me_join (ee_str (by decide +kernel)) (ea_cons (ee_comp (own := [("_law_j", 9)]) (by first | decide +kernel | (dsimp only; decide +kernel) | rfl) (by decide) (by decide) (ei_r1 rfl h.z_range (ea_cons (vv (i := 6)) ea_nil (fun _ _ => rfl)) (fun _ _ => rfl)) (eg_name (i := 9) rfl (by first | exact .inl rfl | exact .inr rfl) (by first | exact .inl rfl | exact .inr rfl)) ep_nil (ee_ix (vv (i := 2)) (ee_callF (fn__law_take h) (by decide) rfl (ea_cons (vv (i := 0)) (ea_cons ee_int ea_nil (fun _ _ => rfl)) (fun _ _ => rfl)) (fun _ _ => rfl) (fun _ => rfl) (by decide)) (fun _ _ => rfl)) (fun _ _ => rfl)) ea_nil (fun _ _ => rfl)) (fun _ _ => rfl) (fun _ => rfl) (fun _ => rfl) rfl (fun _ => rfl)) (fun _ => rfl) (.inl rfl))
    (es_cons (es_set (i := 8) rfl (by first | exact .inl rfl | exact .inr rfl) (ee_callF (fn__law_take h) (by decide) rfl (ea_cons (vv (i := 0)) (ea_cons ee_int ea_nil (fun _ _ => rfl)) (fun _ _ => rfl)) (fun _ _ => rfl) (fun _ => rfl) (by decide)) (fun _ => rfl) (.inl rfl))
    (es_cons (es_if (et_cmp op_eqD' (vv (i := 8)) ee_int rfl) (es_cons (es_set (i := 7) rfl (by first | exact .inl rfl | exact .inr rfl) (ee_ix (vv (i := 4)) (ee_callF (fn__law_take h) (by decide) rfl (ea_cons (vv (i := 0)) (ea_cons (ee_callB ca_len rfl h.z_len bt_len (ea_cons (vv (i := 4)) ea_nil (fun _ _ => rfl)) (fun _ _ => rfl) (fun _ => rfl) (by decide) (by decide)) ea_nil (fun _ _ => rfl)) (fun _ _ => rfl)) (fun _ _ => rfl) (fun _ => rfl) (by decide)) (fun _ _ => rfl)) (fun _ => rfl) (.inl rfl))
    es_nil) (es_cons (es_if (et_w (ew_and (et_cmp op_eqD' (vv (i := 8)) ee_int rfl) (ew_and1 (et_cmp op_neD' (vv (i := 3)) (ee_lst ea_nil) rfl)))) (es_cons (es_set (i := 7) rfl (by first | exact .inl rfl | exact .inr rfl) (ee_bin op_addD (ee_sl (ee_ix (vv (i := 3)) (ee_callF (fn__law_take h) (by decide) rfl (ea_cons (vv (i := 0)) (ea_cons (ee_callB ca_len rfl h.z_len bt_len (ea_cons (vv (i := 3)) ea_nil (fun _ _ => rfl)) (fun _ _ => rfl) (fun _ => rfl) (by decide) (by decide)) ea_nil (fun _ _ => rfl)) (fun _ _ => rfl)) (fun _ _ => rfl) (fun _ => rfl) (by decide)) (fun _ _ => rfl)) eo_none (eo_some ee_int)) (ee_ix (vv (i := 2)) (ee_callF (fn__law_take h) (by decide) rfl (ea_cons (vv (i := 0)) (ea_cons ee_int ea_nil (fun _ _ => rfl)) (fun _ _ => rfl)) (fun _ _ => rfl) (fun _ => rfl) (by decide)) (fun _ _ => rfl))) (fun _ => rfl) (.inl rfl))
    es_nil) es_nil)
    es_nil))
    (es_cons (es_exp (ee_mut mu_append (vv (i := 3)) (ea_cons (ee_ix (ee_comp (own := [("_law_one", 10)]) (by first | decide +kernel | (dsimp only; decide +kernel) | rfl) (by decide) (by decide) (ei_list (ee_bin op_addD (ee_lst (ea_cons (vv (i := 7)) ea_nil (fun _ _ => rfl))) (ee_comp (own := [("_law_one", 10)]) (by first | decide +kernel | (dsimp only; decide +kernel) | rfl) (by decide) (by decide) (ei_str (vv (i := 2))) (eg_name (i := 10) rfl (by first | exact .inl rfl | exact .inr rfl) (by first | exact .inl rfl | exact .inr rfl)) ep_nil (ee_bin op_addD (ee_sl (vv (i := 7)) eo_none (eo_some ee_int)) (vv (i := 10))) (fun _ _ => rfl)))) (eg_name (i := 10) rfl (by first | exact .inl rfl | exact .inr rfl) (by first | exact .inl rfl | exact .inr rfl)) (ep_one (et_cmp op_notInD' (vv (i := 10)) (vv (i := 3)) rfl)) (vv (i := 10)) (fun _ _ => rfl)) ee_int (fun _ _ => rfl)) ea_nil (fun _ _ => rfl)) (fun _ _ => rfl) (fun _ => rfl) (fun _ => rfl) rfl (fun _ => rfl)) (fun _ => rfl))
    es_nil))))) (fun _ _ => rfl))
    (es_cons (es_ret (vv (i := 3)))
    es_nil)))))
theorem sc__law_text : FnScope ["_law_row_here", "_law_words_here", "_law_thing"] ["_law_row_here"] (defScope s__law_text) := ⟨rfl, rfl, rfl, by decide +kernel, rfl, by decide +kernel, by decide +kernel⟩
def fb__law_text_1 : SM := (sSeq (sExp (eU "list" appendD (eV 1) (cA (eIf (mB (eP isiD (cA (eV 2) (cA (eC (.ty "tuple")) cN)))) (eM "str" joinD (eC (.str ",")) (cA (eV 2) cN)) (eIf (mB (eP eqD (cA (eV 2) (cA (eC (.str "")) cN)))) (eC (.str "-")) (eP strXD (cA (eV 2) cN)))) cN)))
    sNil)
def fl__law_text_1 : SM := sFor (mTup (eV 0)) (gN 2) fb__law_text_1
def b__law_text : SM := (sSeq (sAsg (eLst cN) (gN 1))
    (sSeq fl__law_text_1
    (sSeq (sRet (eM "str" joinD (eC (.str " ")) (cA (eV 1) cN)))
    sNil)))
def F__law_text : Fs := ⟨runF [false] 3 b__law_text, [false]⟩
theorem sem__law_text (ds : List D) : F__law_text.sem ds = runF [false] 3 b__law_text ds := rfl
theorem sig__law_text : F__law_text.sig = [false] := rfl
theorem fn__law_text {g : G0} (h : Hyp g) : FnI g "_law_text" 1 F__law_text :=
  fn_rule h.d__law_text sc__law_text rfl (es_cons (es_set (i := 1) rfl (by first | exact .inl rfl | exact .inr rfl) (ee_lst ea_nil) (fun _ => rfl) (.inl rfl))
    (es_cons (es_for (ei_tup (vv (i := 0))) (eg_name (i := 2) rfl (by first | exact .inl rfl | exact .inr rfl) (by first | exact .inl rfl | exact .inr rfl)) (es_cons (es_exp (ee_mut mu_append (vv (i := 1)) (ea_cons (ee_if (et_val (ee_callB ca_isi rfl h.z_isinstance bt_isinstance (ea_cons (vv (i := 2)) (ea_cons (ee_ty (n := "tuple") rfl h.z_tuple bt_tuple (by decide) (by decide)) ea_nil (fun _ _ => rfl)) (fun _ _ => rfl)) (fun _ _ => rfl) (fun _ => rfl) (by decide) (by decide)) (fun _ _ => rfl)) (ee_meth me_join (ee_str (by decide +kernel)) (ea_cons (vv (i := 2)) ea_nil (fun _ _ => rfl)) (fun _ _ => rfl) (fun _ => rfl) (fun _ => rfl) rfl (fun _ => rfl)) (ee_if (et_cmp op_eqD' (vv (i := 2)) (ee_str (by decide +kernel)) rfl) (ee_str (by decide +kernel)) (ee_callTy ca_strX rfl h.z_str bt_str (ea_cons (vv (i := 2)) ea_nil (fun _ _ => rfl)) (fun _ _ => rfl) (fun _ => rfl) (by decide) (by decide)))) ea_nil (fun _ _ => rfl)) (fun _ _ => rfl) (fun _ => rfl) (fun _ => rfl) rfl (fun _ => rfl)) (fun _ => rfl))
    es_nil) (fun _ _ => rfl))
    (es_cons (es_ret (ee_meth me_join (ee_str (by decide +kernel)) (ea_cons (vv (i := 1)) ea_nil (fun _ _ => rfl)) (fun _ _ => rfl) (fun _ => rfl) (fun _ => rfl) rfl (fun _ => rfl)))
    es_nil)))
theorem sc__law_row : FnScope ["_law_box_here", "_law_names", "_law_word", "_law_one", "_law_other", "_law_third", "_law_two", "_law_day", "_law_ends", "_law_water", "_law_sky", "_law_rights", "_law_row_here", "_law_turn", "_law_k"] ["_law_box_here", "_law_names", "_law_word"] (defScope s__law_row) := ⟨rfl, rfl, rfl, by decide +kernel, rfl, by decide +kernel, by decide +kernel⟩
def fb__law_row_1 : SM := (sSeq (sAsg (eIf (mB (eP gtD (cA (eP lenD (cA (eCallF F__law_text (cA (eV 12) cN)) cN)) (cA (eC (.int 120)) cN)))) (eP addD (cA (eP addD (cA (eSl (eV 12) oN (oS (eC (.int 3)))) (cA (eTup (cA (eSl (eP ixD (cA (eV 12) (cA (eC (.int 3)) cN))) oN (oS (eP negD (cA (eC (.int 1)) cN)))) cN)) cN))) (cA (eSl (eV 12) (oS (eC (.int 4))) oN) cN))) (eV 12)) (gN 12))
    sNil)
def fl__law_row_1 : SM := sFor (mR1 (cA (eC (.int 11)) cN)) (gN 13) fb__law_row_1
def ce__law_row_2 : M Vl := (eP ixD (cA (eV 1) (cA (eCallF F__law_take (cA (eV 0) (cA (eC (.int 9)) cN))) cN)))
def cp__law_row_2 : M Vl := eComp [14] (mR1 (cA (eP ixD (cA (eLst (cA (eC (.int 12)) (cA (eP addD (cA (eC (.int 1)) (cA (eCallF F__law_take (cA (eV 0) (cA (eC (.int 12)) cN))) cN))) cN))) (cA (eCallF F__law_take (cA (eV 0) (cA (eC (.int 2)) cN))) cN))) cN)) (gN 14) (rt true) ce__law_row_2
def b__law_row : SM := (sSeq (sPF3 3 4 5 (eP ixD (cA (eV 1) (cA (eCallF F__law_take (cA (eV 0) (cA (eC (.int 9)) cN))) cN))) (eP ixD (cA (eV 1) (cA (eCallF F__law_take (cA (eV 0) (cA (eC (.int 9)) cN))) cN))) (eCallF F__law_take (cA (eV 0) (cA (eC (.int 9)) cN))))
    (sSeq (sAsg (eLst (cA (eP ixD (cA (eV 1) (cA (eV 5) cN))) (cA (eP ixD (cA (eV 1) (cA (eP modD (cA (eP addD (cA (eP addD (cA (eV 5) (cA (eC (.int 1)) cN))) (cA (eCallF F__law_take (cA (eV 0) (cA (eC (.int 8)) cN))) cN))) (cA (eC (.int 9)) cN))) cN))) cN))) (gN 6))
    (sSeq (sPF 7 8 (eP ixD (cA (eLst (cA (eC (.int 0)) (cA (eC (.int 39)) (cA (eCallF F__law_take (cA (eV 0) (cA (eC (.int 40)) cN))) cN)))) (cA (eCallF F__law_take (cA (eV 0) (cA (eC (.int 3)) cN))) cN))) (eP sortedD (cA (eLst (cA (eCallF F__law_take (cA (eV 0) (cA (eC (.int 40)) cN))) (cA (eCallF F__law_take (cA (eV 0) (cA (eC (.int 40)) cN))) cN))) cN)))
    (sSeq (sPF 9 10 (eP ixD (cA (eLst (cA (eC (.int 1)) (cA (eC (.int 999)) (cA (eP addD (cA (eC (.int 1)) (cA (eCallF F__law_take (cA (eV 0) (cA (eC (.int 999)) cN))) cN))) cN)))) (cA (eCallF F__law_take (cA (eV 0) (cA (eC (.int 3)) cN))) cN))) (eP ixD (cA (eLst (cA (eC (.int 0)) (cA (eC (.int 99)) (cA (eCallF F__law_take (cA (eV 0) (cA (eC (.int 100)) cN))) cN)))) (cA (eCallF F__law_take (cA (eV 0) (cA (eC (.int 3)) cN))) cN))))
    (sSeq (sIf (mB (eP eqD (cA (eV 2) (cA (eC (.str "field")) cN)))) (sSeq (sRet (eTup (cA (eV 2) (cA (eV 3) (cA (eV 4) (cA (eP ixD (cA (eLst (cA (eC (.str "")) (cA (eP ixD (cA (eV 1) (cA (eV 5) cN))) cN))) (cA (eCallF F__law_take (cA (eV 0) (cA (eC (.int 2)) cN))) cN))) (cA (eV 9) (cA (eV 10) cN))))))))
    sNil) sNil)
    (sSeq (sIf (mB (eP eqD (cA (eV 2) (cA (eC (.str "gate")) cN)))) (sSeq (sAsg (eP tupleD (cA cp__law_row_2 cN)) (gN 11))
    (sSeq (sAsg (eTup (cA (eV 2) (cA (eV 3) (cA (eV 9) (cA (eV 11) (cA (eP tupleD (cA (eSl (eSl (eP sortedD (cA (eV 1) cN)) (oS (eCallF F__law_take (cA (eV 0) (cA (eC (.int 8)) cN)))) oN) oN (oS (eC (.int 8)))) cN)) cN)))))) (gN 12))
    (sSeq fl__law_row_1
    (sSeq (sRet (eV 12))
    sNil)))) sNil)
    (sSeq (sIf (mB (eP inD (cA (eV 2) (cA (eTup (cA (eC (.str "rain")) (cA (eC (.str "sun")) cN))) cN)))) (sSeq (sRet (eTup (cA (eV 2) (cA (eV 7) (cA (eV 10) cN)))))
    sNil) sNil)
    (sSeq (sIf (mB (eP inD (cA (eV 2) (cA (eTup (cA (eC (.str "lend")) (cA (eC (.str "let")) cN))) cN)))) (sSeq (sRet (eP addD (cA (eTup (cA (eV 2) (cA (eV 7) (cA (eV 3) cN)))) (cA (eIf (mB (eP eqD (cA (eV 2) (cA (eC (.str "lend")) cN)))) (eP tupleD (cA (eV 6) cN)) (eTup (cA (eV 4) (cA (eV 9) cN)))) cN))))
    sNil) sNil)
    (sSeq (sIf (mB (eP inD (cA (eV 2) (cA (eTup (cA (eC (.str "shut")) (cA (eC (.str "holder")) (cA (eC (.str "rows")) (cA (eC (.str "mend")) cN))))) cN)))) (sSeq (sRet (eP addD (cA (eTup (cA (eV 2) (cA (eV 7) (cA (eV 3) cN)))) (cA (eP mulTD (cA (eTup (cA (eV 4) cN)) (cA (eP intD (cA (eP eqD (cA (eV 2) (cA (eC (.str "shut")) cN))) cN)) cN))) cN))))
    sNil) sNil)
    (sSeq (sIf (mB (eP inD (cA (eV 2) (cA (eTup (cA (eC (.str "wet")) (cA (eC (.str "nowet")) (cA (eC (.str "dry")) (cA (eC (.str "nodry")) cN))))) cN)))) (sSeq (sRet (eP addD (cA (eTup (cA (eV 2) (cA (eV 3) (cA (eP ixD (cA (eV 8) (cA (eC (.int 0)) cN))) (cA (eP ixD (cA (eV 8) (cA (eC (.int 1)) cN))) cN))))) (cA (eP mulTD (cA (eTup (cA (eV 9) cN)) (cA (eP intD (cA (eP eqD (cA (eSl (eV 2) (oS (eP negD (cA (eC (.int 3)) cN))) oN) (cA (eC (.str "wet")) cN))) cN)) cN))) cN))))
    sNil) sNil)
    (sSeq (sIf (mB (eP inD (cA (eV 2) (cA (eTup (cA (eC (.str "breach")) (cA (eC (.str "drowns")) cN))) cN)))) (sSeq (sRet (eTup (cA (eV 2) (cA (eV 7) (cA (eV 3) (cA (eP subD (cA (eV 9) (cA (eC (.int 1)) cN))) cN))))))
    sNil) sNil)
    (sSeq (sIf (mB (eP eqD (cA (eV 2) (cA (eC (.str "payback")) cN)))) (sSeq (sRet (eTup (cA (eV 2) (cA (eP ixD (cA (eV 6) (cA (eC (.int 0)) cN))) (cA (eP ixD (cA (eV 6) (cA (eC (.int 1)) cN))) (cA (eP ixD (cA (eV 8) (cA (eC (.int 0)) cN))) (cA (eP minD (cA (eP ixD (cA (eV 8) (cA (eC (.int 1)) cN))) (cA (eP addD (cA (eP ixD (cA (eV 8) (cA (eC (.int 0)) cN))) (cA (eP ixD (cA (eLst (cA (eC (.int 9)) (cA (eCallF F__law_take (cA (eV 0) (cA (eC (.int 10)) cN))) cN))) (cA (eCallF F__law_take (cA (eV 0) (cA (eC (.int 2)) cN))) cN))) cN))) cN))) cN)))))))
    sNil) sNil)
    (sSeq (sRet (eIf (mB (eP eqD (cA (eV 2) (cA (eC (.str "stands")) cN)))) (eTup (cA (eV 2) (cA (eV 7) cN))) (eTup (cA (eV 2) cN))))
    sNil)))))))))))))
def F__law_row : Fs := ⟨runF [true, false, false] 15 b__law_row, [true, false, false]⟩
theorem sem__law_row (ds : List D) : F__law_row.sem ds = runF [true, false, false] 15 b__law_row ds := rfl
theorem sig__law_row : F__law_row.sig = [true, false, false] := rfl
theorem fn__law_row {g : G0} (h : Hyp g) : FnI g "_law_row" 2 F__law_row :=
  fn_rule h.d__law_row sc__law_row rfl (es_cons (es_pf3 (i := 3) (j := 4) (l := 5) rfl rfl rfl (by decide) (by decide) (by decide) rfl rfl rfl (ee_ix (vv (i := 1)) (ee_callF (fn__law_take h) (by decide) rfl (ea_cons (vv (i := 0)) (ea_cons ee_int ea_nil (fun _ _ => rfl)) (fun _ _ => rfl)) (fun _ _ => rfl) (fun _ => rfl) (by decide)) (fun _ _ => rfl)) (ee_ix (vv (i := 1)) (ee_callF (fn__law_take h) (by decide) rfl (ea_cons (vv (i := 0)) (ea_cons ee_int ea_nil (fun _ _ => rfl)) (fun _ _ => rfl)) (fun _ _ => rfl) (fun _ => rfl) (by decide)) (fun _ _ => rfl)) (ee_callF (fn__law_take h) (by decide) rfl (ea_cons (vv (i := 0)) (ea_cons ee_int ea_nil (fun _ _ => rfl)) (fun _ _ => rfl)) (fun _ _ => rfl) (fun _ => rfl) (by decide)) (fun _ _ => rfl) (fun _ _ => rfl) (fun _ _ => rfl) (fun env he => by cases env; cases he; rfl) (fun _ => rfl))
    (es_cons (es_set (i := 6) rfl (by first | exact .inl rfl | exact .inr rfl) (ee_lst (ea_cons (ee_ix (vv (i := 1)) (vv (i := 5)) (fun _ _ => rfl)) (ea_cons (ee_ix (vv (i := 1)) (ee_bin op_modD (ee_bin op_addD (ee_bin op_addD (vv (i := 5)) ee_int) (ee_callF (fn__law_take h) (by decide) rfl (ea_cons (vv (i := 0)) (ea_cons ee_int ea_nil (fun _ _ => rfl)) (fun _ _ => rfl)) (fun _ _ => rfl) (fun _ => rfl) (by decide))) ee_int) (fun _ _ => rfl)) ea_nil (fun _ _ => rfl)) (fun _ _ => rfl))) (fun _ => rfl) (.inl rfl))
    (es_cons (es_pf (i := 7) (j := 8) rfl rfl (by decide) rfl rfl (ee_ix (ee_lst (ea_cons ee_int (ea_cons ee_int (ea_cons (ee_callF (fn__law_take h) (by decide) rfl (ea_cons (vv (i := 0)) (ea_cons ee_int ea_nil (fun _ _ => rfl)) (fun _ _ => rfl)) (fun _ _ => rfl) (fun _ => rfl) (by decide)) ea_nil (fun _ _ => rfl)) (fun _ _ => rfl)) (fun _ _ => rfl))) (ee_callF (fn__law_take h) (by decide) rfl (ea_cons (vv (i := 0)) (ea_cons ee_int ea_nil (fun _ _ => rfl)) (fun _ _ => rfl)) (fun _ _ => rfl) (fun _ => rfl) (by decide)) (fun _ _ => rfl)) (ee_callB ca_sorted rfl h.z_sorted bt_sorted (ea_cons (ee_lst (ea_cons (ee_callF (fn__law_take h) (by decide) rfl (ea_cons (vv (i := 0)) (ea_cons ee_int ea_nil (fun _ _ => rfl)) (fun _ _ => rfl)) (fun _ _ => rfl) (fun _ => rfl) (by decide)) (ea_cons (ee_callF (fn__law_take h) (by decide) rfl (ea_cons (vv (i := 0)) (ea_cons ee_int ea_nil (fun _ _ => rfl)) (fun _ _ => rfl)) (fun _ _ => rfl) (fun _ => rfl) (by decide)) ea_nil (fun _ _ => rfl)) (fun _ _ => rfl))) ea_nil (fun _ _ => rfl)) (fun _ _ => rfl) (fun _ => rfl) (by decide) (by decide)) (fun _ _ => rfl) (fun _ _ => rfl) (fun env he => by cases env; cases he; rfl) (fun _ => rfl))
    (es_cons (es_pf (i := 9) (j := 10) rfl rfl (by decide) rfl rfl (ee_ix (ee_lst (ea_cons ee_int (ea_cons ee_int (ea_cons (ee_bin op_addD ee_int (ee_callF (fn__law_take h) (by decide) rfl (ea_cons (vv (i := 0)) (ea_cons ee_int ea_nil (fun _ _ => rfl)) (fun _ _ => rfl)) (fun _ _ => rfl) (fun _ => rfl) (by decide))) ea_nil (fun _ _ => rfl)) (fun _ _ => rfl)) (fun _ _ => rfl))) (ee_callF (fn__law_take h) (by decide) rfl (ea_cons (vv (i := 0)) (ea_cons ee_int ea_nil (fun _ _ => rfl)) (fun _ _ => rfl)) (fun _ _ => rfl) (fun _ => rfl) (by decide)) (fun _ _ => rfl)) (ee_ix (ee_lst (ea_cons ee_int (ea_cons ee_int (ea_cons (ee_callF (fn__law_take h) (by decide) rfl (ea_cons (vv (i := 0)) (ea_cons ee_int ea_nil (fun _ _ => rfl)) (fun _ _ => rfl)) (fun _ _ => rfl) (fun _ => rfl) (by decide)) ea_nil (fun _ _ => rfl)) (fun _ _ => rfl)) (fun _ _ => rfl))) (ee_callF (fn__law_take h) (by decide) rfl (ea_cons (vv (i := 0)) (ea_cons ee_int ea_nil (fun _ _ => rfl)) (fun _ _ => rfl)) (fun _ _ => rfl) (fun _ => rfl) (by decide)) (fun _ _ => rfl)) (fun _ _ => rfl) (fun _ _ => rfl) (fun env he => by cases env; cases he; rfl) (fun _ => rfl))
    (es_cons (es_if (et_cmp op_eqD' (vv (i := 2)) (ee_str (by decide +kernel)) rfl) (es_cons (es_ret (ee_tup (ea_cons (vv (i := 2)) (ea_cons (vv (i := 3)) (ea_cons (vv (i := 4)) (ea_cons (ee_ix (ee_lst (ea_cons (ee_str (by decide +kernel)) (ea_cons (ee_ix (vv (i := 1)) (vv (i := 5)) (fun _ _ => rfl)) ea_nil (fun _ _ => rfl)) (fun _ _ => rfl))) (ee_callF (fn__law_take h) (by decide) rfl (ea_cons (vv (i := 0)) (ea_cons ee_int ea_nil (fun _ _ => rfl)) (fun _ _ => rfl)) (fun _ _ => rfl) (fun _ => rfl) (by decide)) (fun _ _ => rfl)) (ea_cons (vv (i := 9)) (ea_cons (vv (i := 10)) ea_nil (fun _ _ => rfl)) (fun _ _ => rfl)) (fun _ _ => rfl)) (fun _ _ => rfl)) (fun _ _ => rfl)) (fun _ _ => rfl))))
    es_nil) es_nil)
    (es_cons (es_if (et_cmp op_eqD' (vv (i := 2)) (ee_str (by decide +kernel)) rfl) (es_cons (es_set (i := 11) rfl (by first | exact .inl rfl | exact .inr rfl) (ee_callTy ca_tuple rfl h.z_tuple bt_tuple (ea_cons (ee_comp (own := [("_law_k", 14)]) (by first | decide +kernel | (dsimp only; decide +kernel) | rfl) (by decide) (by decide) (ei_r1 rfl h.z_range (ea_cons (ee_ix (ee_lst (ea_cons ee_int (ea_cons (ee_bin op_addD ee_int (ee_callF (fn__law_take h) (by decide) rfl (ea_cons (vv (i := 0)) (ea_cons ee_int ea_nil (fun _ _ => rfl)) (fun _ _ => rfl)) (fun _ _ => rfl) (fun _ => rfl) (by decide))) ea_nil (fun _ _ => rfl)) (fun _ _ => rfl))) (ee_callF (fn__law_take h) (by decide) rfl (ea_cons (vv (i := 0)) (ea_cons ee_int ea_nil (fun _ _ => rfl)) (fun _ _ => rfl)) (fun _ _ => rfl) (fun _ => rfl) (by decide)) (fun _ _ => rfl)) ea_nil (fun _ _ => rfl)) (fun _ _ => rfl)) (eg_name (i := 14) rfl (by first | exact .inl rfl | exact .inr rfl) (by first | exact .inl rfl | exact .inr rfl)) ep_nil (ee_ix (vv (i := 1)) (ee_callF (fn__law_take h) (by decide) rfl (ea_cons (vv (i := 0)) (ea_cons ee_int ea_nil (fun _ _ => rfl)) (fun _ _ => rfl)) (fun _ _ => rfl) (fun _ => rfl) (by decide)) (fun _ _ => rfl)) (fun _ _ => rfl)) ea_nil (fun _ _ => rfl)) (fun _ _ => rfl) (fun _ => rfl) (by decide) (by decide)) (fun _ => rfl) (.inl rfl))
    (es_cons (es_set (i := 12) rfl (by first | exact .inl rfl | exact .inr rfl) (ee_tup (ea_cons (vv (i := 2)) (ea_cons (vv (i := 3)) (ea_cons (vv (i := 9)) (ea_cons (vv (i := 11)) (ea_cons (ee_callTy ca_tuple rfl h.z_tuple bt_tuple (ea_cons (ee_sl (ee_sl (ee_callB ca_sorted rfl h.z_sorted bt_sorted (ea_cons (vv (i := 1)) ea_nil (fun _ _ => rfl)) (fun _ _ => rfl) (fun _ => rfl) (by decide) (by decide)) (eo_some (ee_callF (fn__law_take h) (by decide) rfl (ea_cons (vv (i := 0)) (ea_cons ee_int ea_nil (fun _ _ => rfl)) (fun _ _ => rfl)) (fun _ _ => rfl) (fun _ => rfl) (by decide))) eo_none) eo_none (eo_some ee_int)) ea_nil (fun _ _ => rfl)) (fun _ _ => rfl) (fun _ => rfl) (by decide) (by decide)) ea_nil (fun _ _ => rfl)) (fun _ _ => rfl)) (fun _ _ => rfl)) (fun _ _ => rfl)) (fun _ _ => rfl))) (fun _ => rfl) (.inl rfl))
    (es_cons (es_for (ei_r1 rfl h.z_range (ea_cons ee_int ea_nil (fun _ _ => rfl)) (fun _ _ => rfl)) (eg_name (i := 13) rfl (by first | exact .inl rfl | exact .inr rfl) (by first | exact .inl rfl | exact .inr rfl)) (es_cons (es_set (i := 12) rfl (by first | exact .inl rfl | exact .inr rfl) (ee_if (et_cmp op_gtD (ee_callB ca_len rfl h.z_len bt_len (ea_cons (ee_callF (fn__law_text h) (by decide) rfl (ea_cons (vv (i := 12)) ea_nil (fun _ _ => rfl)) (fun _ _ => rfl) (fun _ => rfl) (by decide)) ea_nil (fun _ _ => rfl)) (fun _ _ => rfl) (fun _ => rfl) (by decide) (by decide)) ee_int rfl) (ee_bin op_addD (ee_bin op_addD (ee_sl (vv (i := 12)) eo_none (eo_some ee_int)) (ee_tup (ea_cons (ee_sl (ee_ix (vv (i := 12)) ee_int (fun _ _ => rfl)) eo_none (eo_some (ee_un un_negD ee_int))) ea_nil (fun _ _ => rfl)))) (ee_sl (vv (i := 12)) (eo_some ee_int) eo_none)) (vv (i := 12))) (fun _ => rfl) (.inl rfl))
    es_nil) (fun _ _ => rfl))
    (es_cons (es_ret (vv (i := 12)))
    es_nil)))) es_nil)
    (es_cons (es_if (et_cmp op_inD' (vv (i := 2)) (ee_tup (ea_cons (ee_str (by decide +kernel)) (ea_cons (ee_str (by decide +kernel)) ea_nil (fun _ _ => rfl)) (fun _ _ => rfl))) rfl) (es_cons (es_ret (ee_tup (ea_cons (vv (i := 2)) (ea_cons (vv (i := 7)) (ea_cons (vv (i := 10)) ea_nil (fun _ _ => rfl)) (fun _ _ => rfl)) (fun _ _ => rfl))))
    es_nil) es_nil)
    (es_cons (es_if (et_cmp op_inD' (vv (i := 2)) (ee_tup (ea_cons (ee_str (by decide +kernel)) (ea_cons (ee_str (by decide +kernel)) ea_nil (fun _ _ => rfl)) (fun _ _ => rfl))) rfl) (es_cons (es_ret (ee_bin op_addD (ee_tup (ea_cons (vv (i := 2)) (ea_cons (vv (i := 7)) (ea_cons (vv (i := 3)) ea_nil (fun _ _ => rfl)) (fun _ _ => rfl)) (fun _ _ => rfl))) (ee_if (et_cmp op_eqD' (vv (i := 2)) (ee_str (by decide +kernel)) rfl) (ee_callTy ca_tuple rfl h.z_tuple bt_tuple (ea_cons (vv (i := 6)) ea_nil (fun _ _ => rfl)) (fun _ _ => rfl) (fun _ => rfl) (by decide) (by decide)) (ee_tup (ea_cons (vv (i := 4)) (ea_cons (vv (i := 9)) ea_nil (fun _ _ => rfl)) (fun _ _ => rfl))))))
    es_nil) es_nil)
    (es_cons (es_if (et_cmp op_inD' (vv (i := 2)) (ee_tup (ea_cons (ee_str (by decide +kernel)) (ea_cons (ee_str (by decide +kernel)) (ea_cons (ee_str (by decide +kernel)) (ea_cons (ee_str (by decide +kernel)) ea_nil (fun _ _ => rfl)) (fun _ _ => rfl)) (fun _ _ => rfl)) (fun _ _ => rfl))) rfl) (es_cons (es_ret (ee_bin op_addD (ee_tup (ea_cons (vv (i := 2)) (ea_cons (vv (i := 7)) (ea_cons (vv (i := 3)) ea_nil (fun _ _ => rfl)) (fun _ _ => rfl)) (fun _ _ => rfl))) (ee_bin op_mulTD (ee_tup (ea_cons (vv (i := 4)) ea_nil (fun _ _ => rfl))) (ee_callTy ca_int rfl h.z_int bt_int (ea_cons (ee_cmp op_eqD' (vv (i := 2)) (ee_str (by decide +kernel)) rfl) ea_nil (fun _ _ => rfl)) (fun _ _ => rfl) (fun _ => rfl) (by decide) (by decide)))))
    es_nil) es_nil)
    (es_cons (es_if (et_cmp op_inD' (vv (i := 2)) (ee_tup (ea_cons (ee_str (by decide +kernel)) (ea_cons (ee_str (by decide +kernel)) (ea_cons (ee_str (by decide +kernel)) (ea_cons (ee_str (by decide +kernel)) ea_nil (fun _ _ => rfl)) (fun _ _ => rfl)) (fun _ _ => rfl)) (fun _ _ => rfl))) rfl) (es_cons (es_ret (ee_bin op_addD (ee_tup (ea_cons (vv (i := 2)) (ea_cons (vv (i := 3)) (ea_cons (ee_ix (vv (i := 8)) ee_int (fun _ _ => rfl)) (ea_cons (ee_ix (vv (i := 8)) ee_int (fun _ _ => rfl)) ea_nil (fun _ _ => rfl)) (fun _ _ => rfl)) (fun _ _ => rfl)) (fun _ _ => rfl))) (ee_bin op_mulTD (ee_tup (ea_cons (vv (i := 9)) ea_nil (fun _ _ => rfl))) (ee_callTy ca_int rfl h.z_int bt_int (ea_cons (ee_cmp op_eqD' (ee_sl (vv (i := 2)) (eo_some (ee_un un_negD ee_int)) eo_none) (ee_str (by decide +kernel)) rfl) ea_nil (fun _ _ => rfl)) (fun _ _ => rfl) (fun _ => rfl) (by decide) (by decide)))))
    es_nil) es_nil)
    (es_cons (es_if (et_cmp op_inD' (vv (i := 2)) (ee_tup (ea_cons (ee_str (by decide +kernel)) (ea_cons (ee_str (by decide +kernel)) ea_nil (fun _ _ => rfl)) (fun _ _ => rfl))) rfl) (es_cons (es_ret (ee_tup (ea_cons (vv (i := 2)) (ea_cons (vv (i := 7)) (ea_cons (vv (i := 3)) (ea_cons (ee_bin op_subD (vv (i := 9)) ee_int) ea_nil (fun _ _ => rfl)) (fun _ _ => rfl)) (fun _ _ => rfl)) (fun _ _ => rfl))))
    es_nil) es_nil)
    (es_cons (es_if (et_cmp op_eqD' (vv (i := 2)) (ee_str (by decide +kernel)) rfl) (es_cons (es_ret (ee_tup (ea_cons (vv (i := 2)) (ea_cons (ee_ix (vv (i := 6)) ee_int (fun _ _ => rfl)) (ea_cons (ee_ix (vv (i := 6)) ee_int (fun _ _ => rfl)) (ea_cons (ee_ix (vv (i := 8)) ee_int (fun _ _ => rfl)) (ea_cons (ee_callB ca_min rfl h.z_min bt_min (ea_cons (ee_ix (vv (i := 8)) ee_int (fun _ _ => rfl)) (ea_cons (ee_bin op_addD (ee_ix (vv (i := 8)) ee_int (fun _ _ => rfl)) (ee_ix (ee_lst (ea_cons ee_int (ea_cons (ee_callF (fn__law_take h) (by decide) rfl (ea_cons (vv (i := 0)) (ea_cons ee_int ea_nil (fun _ _ => rfl)) (fun _ _ => rfl)) (fun _ _ => rfl) (fun _ => rfl) (by decide)) ea_nil (fun _ _ => rfl)) (fun _ _ => rfl))) (ee_callF (fn__law_take h) (by decide) rfl (ea_cons (vv (i := 0)) (ea_cons ee_int ea_nil (fun _ _ => rfl)) (fun _ _ => rfl)) (fun _ _ => rfl) (fun _ => rfl) (by decide)) (fun _ _ => rfl))) ea_nil (fun _ _ => rfl)) (fun _ _ => rfl)) (fun _ _ => rfl) (fun _ => rfl) (by decide) (by decide)) ea_nil (fun _ _ => rfl)) (fun _ _ => rfl)) (fun _ _ => rfl)) (fun _ _ => rfl)) (fun _ _ => rfl))))
    es_nil) es_nil)
    (es_cons (es_ret (ee_if (et_cmp op_eqD' (vv (i := 2)) (ee_str (by decide +kernel)) rfl) (ee_tup (ea_cons (vv (i := 2)) (ea_cons (vv (i := 7)) ea_nil (fun _ _ => rfl)) (fun _ _ => rfl))) (ee_tup (ea_cons (vv (i := 2)) ea_nil (fun _ _ => rfl)))))
    es_nil)))))))))))))
theorem sc__law_loose : FnScope ["_law_box_here", "_law_text_here", "_law_found", "_law_word"] ["_law_box_here", "_law_text_here"] (defScope s__law_loose) := ⟨rfl, rfl, rfl, by decide +kernel, rfl, by decide +kernel, by decide +kernel⟩
def fb__law_loose_1 : SM := (sSeq (sAsg (eP addD (cA (eP addD (cA (eV 2) (cA (eV 3) cN))) (cA (eP mulSD (cA (eC (.str " ")) (cA (eP addD (cA (eC (.int 1)) (cA (eCallF F__law_take (cA (eV 0) (cA (eC (.int 4)) cN))) cN))) cN))) cN))) (gN 2))
    sNil)
def fl__law_loose_1 : SM := sFor (mLst (eM "str" splitD (eV 1) (cA (eC (.str " ")) cN))) (gN 3) fb__law_loose_1
def b__law_loose : SM := (sSeq (sAsg (eP mulSD (cA (eC (.str " ")) (cA (eCallF F__law_take (cA (eV 0) (cA (eC (.int 4)) cN))) cN))) (gN 2))
    (sSeq fl__law_loose_1
    (sSeq (sRet (eP addD (cA (eV 2) (cA (eP mulSD (cA (eC (.str " ")) (cA (eCallF F__law_take (cA (eV 0) (cA (eC (.int 4)) cN))) cN))) cN))))
    sNil)))
def F__law_loose : Fs := ⟨runF [true, false] 4 b__law_loose, [true, false]⟩
theorem sem__law_loose (ds : List D) : F__law_loose.sem ds = runF [true, false] 4 b__law_loose ds := rfl
theorem sig__law_loose : F__law_loose.sig = [true, false] := rfl
theorem fn__law_loose {g : G0} (h : Hyp g) : FnI g "_law_loose" 2 F__law_loose :=
  fn_rule h.d__law_loose sc__law_loose rfl (es_cons (es_set (i := 2) rfl (by first | exact .inl rfl | exact .inr rfl) (ee_bin op_mulSD (ee_str (by decide +kernel)) (ee_callF (fn__law_take h) (by decide) rfl (ea_cons (vv (i := 0)) (ea_cons ee_int ea_nil (fun _ _ => rfl)) (fun _ _ => rfl)) (fun _ _ => rfl) (fun _ => rfl) (by decide))) (fun _ => rfl) (.inl rfl))
    (es_cons (es_for (ei_list (ee_meth me_split (vv (i := 1)) (ea_cons (ee_str (by decide +kernel)) ea_nil (fun _ _ => rfl)) (fun _ _ => rfl) (fun _ => rfl) (fun _ => rfl) rfl (fun _ => rfl))) (eg_name (i := 3) rfl (by first | exact .inl rfl | exact .inr rfl) (by first | exact .inl rfl | exact .inr rfl)) (es_cons (es_set (i := 2) rfl (by first | exact .inl rfl | exact .inr rfl) (ee_bin op_addD (ee_bin op_addD (vv (i := 2)) (vv (i := 3))) (ee_bin op_mulSD (ee_str (by decide +kernel)) (ee_bin op_addD ee_int (ee_callF (fn__law_take h) (by decide) rfl (ea_cons (vv (i := 0)) (ea_cons ee_int ea_nil (fun _ _ => rfl)) (fun _ _ => rfl)) (fun _ _ => rfl) (fun _ => rfl) (by decide))))) (fun _ => rfl) (.inl rfl))
    es_nil) (fun _ _ => rfl))
    (es_cons (es_ret (ee_bin op_addD (vv (i := 2)) (ee_bin op_mulSD (ee_str (by decide +kernel)) (ee_callF (fn__law_take h) (by decide) rfl (ea_cons (vv (i := 0)) (ea_cons ee_int ea_nil (fun _ _ => rfl)) (fun _ _ => rfl)) (fun _ _ => rfl) (fun _ => rfl) (by decide)))))
    es_nil)))
theorem sc__law_same : FnScope ["_law_found", "_law_due", "_law_one", "_law_other"] ["_law_found", "_law_due"] (defScope s__law_same) := ⟨rfl, rfl, rfl, by decide +kernel, rfl, by decide +kernel, by decide +kernel⟩
def ce__law_same_1 (R : Fs) : M Vl := (eCallF R (cA (eV 2) (cA (eV 3) cN)))
def cp__law_same_1 (R : Fs) : M Vl := eComp [2, 3] (mZip (cA (eV 0) (cA (eV 1) cN))) (gT 2 (gsC (gN 2) (gsC (gN 3) gsN))) (rt true) (ce__law_same_1 R)
def b__law_same (R : Fs) : SM := (sSeq (sIf (mB (eP isD (cA (eV 1) (cA (eC .non) cN)))) (sSeq (sRet (eP isD (cA (eV 0) (cA (eC .non) cN))))
    sNil) sNil)
    (sSeq (sIf (mB (eP isiD (cA (eV 1) (cA (eC (.ty "bool")) cN)))) (sSeq (sRet (eAnd (eP isiD (cA (eV 0) (cA (eC (.ty "bool")) cN))) (eP eqD (cA (eV 0) (cA (eV 1) cN)))))
    sNil) sNil)
    (sSeq (sIf (mB (eP isiD (cA (eV 1) (cA (eTup (cA (eC (.ty "list")) (cA (eC (.ty "tuple")) cN))) cN)))) (sSeq (sIf (mOr (mB (eP neD (cA (eP isiD (cA (eV 0) (cA (eC (.ty "list")) cN))) (cA (eP isiD (cA (eV 1) (cA (eC (.ty "list")) cN))) cN)))) (mB (eP neD (cA (eP isiD (cA (eV 0) (cA (eC (.ty "tuple")) cN))) (cA (eP isiD (cA (eV 1) (cA (eC (.ty "tuple")) cN))) cN))))) (sSeq (sRet (eC (.bl false)))
    sNil) sNil)
    (sSeq (sRet (eAnd (eP eqD (cA (eP lenD (cA (eV 0) cN)) (cA (eP lenD (cA (eV 1) cN)) cN))) (eP allD (cA (cp__law_same_1 R) cN))))
    sNil)) sNil)
    (sSeq (sIf (mB (eP isiD (cA (eV 1) (cA (eC (.ty "str")) cN)))) (sSeq (sRet (eAnd (eP isiD (cA (eV 0) (cA (eC (.ty "str")) cN))) (eP eqD (cA (eV 0) (cA (eV 1) cN)))))
    sNil) sNil)
    (sSeq (sRet (eAnd (eP isiD (cA (eV 0) (cA (eC (.ty "int")) cN))) (eAnd (eNot (eP isiD (cA (eV 0) (cA (eC (.ty "bool")) cN)))) (eP eqD (cA (eV 0) (cA (eV 1) cN))))))
    sNil)))))
def F__law_same : Nat → Fs
  | 0 => ⟨fun _ => none, [false, false]⟩
  | n + 1 => ⟨runF [false, false] 4 (b__law_same (F__law_same n)), [false, false]⟩
theorem fs__law_same {g : G0} (h : Hyp g) {R : Fs} {n : Nat} (hR : FnI g "_law_same" (1 + n) R) : FnI g "_law_same" (1 + n + 1) ⟨runF [false, false] 4 (b__law_same R), [false, false]⟩ :=
  fn_rule h.d__law_same sc__law_same rfl (es_cons (es_if (et_cmp op_isD (vv (i := 1)) ee_non rfl) (es_cons (es_ret (ee_cmp op_isD (vv (i := 0)) ee_non rfl))
    es_nil) es_nil)
    (es_cons (es_if (et_val (ee_callB ca_isi rfl h.z_isinstance bt_isinstance (ea_cons (vv (i := 1)) (ea_cons (ee_ty (n := "bool") rfl h.z_bool bt_bool (by decide) (by decide)) ea_nil (fun _ _ => rfl)) (fun _ _ => rfl)) (fun _ _ => rfl) (fun _ => rfl) (by decide) (by decide)) (fun _ _ => rfl)) (es_cons (es_ret (ee_and (ee_callB ca_isi rfl h.z_isinstance bt_isinstance (ea_cons (vv (i := 0)) (ea_cons (ee_ty (n := "bool") rfl h.z_bool bt_bool (by decide) (by decide)) ea_nil (fun _ _ => rfl)) (fun _ _ => rfl)) (fun _ _ => rfl) (fun _ => rfl) (by decide) (by decide)) (ee_one (ee_cmp op_eqD' (vv (i := 0)) (vv (i := 1)) rfl))))
    es_nil) es_nil)
    (es_cons (es_if (et_val (ee_callB ca_isi rfl h.z_isinstance bt_isinstance (ea_cons (vv (i := 1)) (ea_cons (ee_tup (ea_cons (ee_ty (n := "list") rfl h.z_list bt_list (by decide) (by decide)) (ea_cons (ee_ty (n := "tuple") rfl h.z_tuple bt_tuple (by decide) (by decide)) ea_nil (fun _ _ => rfl)) (fun _ _ => rfl))) ea_nil (fun _ _ => rfl)) (fun _ _ => rfl)) (fun _ _ => rfl) (fun _ => rfl) (by decide) (by decide)) (fun _ _ => rfl)) (es_cons (es_if (et_w (ew_or (et_cmp op_neD' (ee_callB ca_isi rfl h.z_isinstance bt_isinstance (ea_cons (vv (i := 0)) (ea_cons (ee_ty (n := "list") rfl h.z_list bt_list (by decide) (by decide)) ea_nil (fun _ _ => rfl)) (fun _ _ => rfl)) (fun _ _ => rfl) (fun _ => rfl) (by decide) (by decide)) (ee_callB ca_isi rfl h.z_isinstance bt_isinstance (ea_cons (vv (i := 1)) (ea_cons (ee_ty (n := "list") rfl h.z_list bt_list (by decide) (by decide)) ea_nil (fun _ _ => rfl)) (fun _ _ => rfl)) (fun _ _ => rfl) (fun _ => rfl) (by decide) (by decide)) rfl) (ew_or1 (et_cmp op_neD' (ee_callB ca_isi rfl h.z_isinstance bt_isinstance (ea_cons (vv (i := 0)) (ea_cons (ee_ty (n := "tuple") rfl h.z_tuple bt_tuple (by decide) (by decide)) ea_nil (fun _ _ => rfl)) (fun _ _ => rfl)) (fun _ _ => rfl) (fun _ => rfl) (by decide) (by decide)) (ee_callB ca_isi rfl h.z_isinstance bt_isinstance (ea_cons (vv (i := 1)) (ea_cons (ee_ty (n := "tuple") rfl h.z_tuple bt_tuple (by decide) (by decide)) ea_nil (fun _ _ => rfl)) (fun _ _ => rfl)) (fun _ _ => rfl) (fun _ => rfl) (by decide) (by decide)) rfl)))) (es_cons (es_ret ee_bl)
    es_nil) es_nil)
    (es_cons (es_ret (ee_and (ee_cmp op_eqD' (ee_callB ca_len rfl h.z_len bt_len (ea_cons (vv (i := 0)) ea_nil (fun _ _ => rfl)) (fun _ _ => rfl) (fun _ => rfl) (by decide) (by decide)) (ee_callB ca_len rfl h.z_len bt_len (ea_cons (vv (i := 1)) ea_nil (fun _ _ => rfl)) (fun _ _ => rfl) (fun _ => rfl) (by decide) (by decide)) rfl) (ee_one (ee_callB ca_all rfl h.z_all bt_all (ea_cons (ee_comp (own := [("_law_one", 2), ("_law_other", 3)]) (by first | decide +kernel | (dsimp only; decide +kernel) | rfl) (by decide) (by decide) (ei_zip rfl h.z_zip (ea_cons (vv (i := 0)) (ea_cons (vv (i := 1)) ea_nil (fun _ _ => rfl)) (fun _ _ => rfl)) (fun _ _ => rfl) (fun _ _ => rfl)) (eg_tup (egs_cons (eg_name (i := 2) rfl (by first | exact .inl rfl | exact .inr rfl) (by first | exact .inl rfl | exact .inr rfl)) (egs_cons (eg_name (i := 3) rfl (by first | exact .inl rfl | exact .inr rfl) (by first | exact .inl rfl | exact .inr rfl)) egs_nil (fun _ => rfl)) (fun _ => rfl)) (fun _ => rfl) (fun _ => rfl)) ep_nil (ee_callF hR (Nat.le_refl _) rfl (ea_cons (vv (i := 2)) (ea_cons (vv (i := 3)) ea_nil (fun _ _ => rfl)) (fun _ _ => rfl)) (fun _ _ => rfl) (fun _ => rfl) (by decide)) (fun _ _ => rfl)) ea_nil (fun _ _ => rfl)) (fun _ _ => rfl) (fun _ => rfl) (by decide) (by decide)))))
    es_nil)) es_nil)
    (es_cons (es_if (et_val (ee_callB ca_isi rfl h.z_isinstance bt_isinstance (ea_cons (vv (i := 1)) (ea_cons (ee_ty (n := "str") rfl h.z_str bt_str (by decide) (by decide)) ea_nil (fun _ _ => rfl)) (fun _ _ => rfl)) (fun _ _ => rfl) (fun _ => rfl) (by decide) (by decide)) (fun _ _ => rfl)) (es_cons (es_ret (ee_and (ee_callB ca_isi rfl h.z_isinstance bt_isinstance (ea_cons (vv (i := 0)) (ea_cons (ee_ty (n := "str") rfl h.z_str bt_str (by decide) (by decide)) ea_nil (fun _ _ => rfl)) (fun _ _ => rfl)) (fun _ _ => rfl) (fun _ => rfl) (by decide) (by decide)) (ee_one (ee_cmp op_eqD' (vv (i := 0)) (vv (i := 1)) rfl))))
    es_nil) es_nil)
    (es_cons (es_ret (ee_and (ee_callB ca_isi rfl h.z_isinstance bt_isinstance (ea_cons (vv (i := 0)) (ea_cons (ee_ty (n := "int") rfl h.z_int bt_int (by decide) (by decide)) ea_nil (fun _ _ => rfl)) (fun _ _ => rfl)) (fun _ _ => rfl) (fun _ => rfl) (by decide) (by decide)) (ee_and (ee_not (ee_callB ca_isi rfl h.z_isinstance bt_isinstance (ea_cons (vv (i := 0)) (ea_cons (ee_ty (n := "bool") rfl h.z_bool bt_bool (by decide) (by decide)) ea_nil (fun _ _ => rfl)) (fun _ _ => rfl)) (fun _ _ => rfl) (fun _ => rfl) (by decide) (by decide))) (ee_one (ee_cmp op_eqD' (vv (i := 0)) (vv (i := 1)) rfl)))))
    es_nil)))))
theorem fn__law_same {g : G0} (h : Hyp g) : ∀ n, FnI g "_law_same" (1 + n) (F__law_same n)
  | 0 => fn_none h.d__law_same _ _
  | n + 1 => fs__law_same h (fn__law_same h n)
theorem sc_number_in : FnScope ["word", "least", "most", "sign"] ["word", "least", "most"] (defScope s_number_in) := ⟨rfl, rfl, rfl, by decide +kernel, rfl, by decide +kernel, by decide +kernel⟩
def ce_number_in_1 : M Vl := (eP inD (cA (eV 3) (cA (eC (.str "0123456789")) cN)))
def cp_number_in_1 : M Vl := eComp [3] (mStr (eV 0)) (gN 3) (rt true) ce_number_in_1
def b_number_in : SM := (sSeq (sIf (mTmp (mOr (mNot (mB (eChain leD leD (eC (.int 1)) (eP lenD (cA (eV 0) cN)) (eP lenD (cA (eP strND (cA (eV 2) cN)) cN))))) (mNot (mB (eP allD (cA cp_number_in_1 cN)))))) (sSeq (sRet (eC .non))
    sNil) sNil)
    (sSeq (sIf (mOr (mAnd (mB (eP eqD (cA (eP ixD (cA (eV 0) (cA (eC (.int 0)) cN))) (cA (eC (.str "0")) cN)))) (mB (eP neD (cA (eV 0) (cA (eC (.str "0")) cN))))) (mNot (mB (eChain leD leD (eV 1) (eP intSD (cA (eV 0) cN)) (eV 2))))) (sSeq (sRet (eC .non))
    sNil) sNil)
    (sSeq (sRet (eP intSD (cA (eV 0) cN)))
    sNil)))
def F_number_in : Fs := ⟨runF [false, false, false] 4 b_number_in, [false, false, false]⟩
theorem sem_number_in (ds : List D) : F_number_in.sem ds = runF [false, false, false] 4 b_number_in ds := rfl
theorem sig_number_in : F_number_in.sig = [false, false, false] := rfl
theorem fn_number_in {g : G0} (h : Hyp g) : FnI g "number_in" 1 F_number_in :=
  fn_rule h.d_number_in sc_number_in rfl (es_cons (es_if (et_tmp (et_w (ew_or (et_not (et_chain op_leD op_leD ee_int (ee_callB ca_len rfl h.z_len bt_len (ea_cons (vv (i := 0)) ea_nil (fun _ _ => rfl)) (fun _ _ => rfl) (fun _ => rfl) (by decide) (by decide)) (ee_callB ca_len rfl h.z_len bt_len (ea_cons (ee_callTy ca_strN rfl h.z_str bt_str (ea_cons (vv (i := 2)) ea_nil (fun _ _ => rfl)) (fun _ _ => rfl) (fun _ => rfl) (by decide) (by decide)) ea_nil (fun _ _ => rfl)) (fun _ _ => rfl) (fun _ => rfl) (by decide) (by decide)) rfl)) (ew_or1 (et_not (et_val (ee_callB ca_all rfl h.z_all bt_all (ea_cons (ee_comp (own := [("sign", 3)]) (by first | decide +kernel | (dsimp only; decide +kernel) | rfl) (by decide) (by decide) (ei_str (vv (i := 0))) (eg_name (i := 3) rfl (by first | exact .inl rfl | exact .inr rfl) (by first | exact .inl rfl | exact .inr rfl)) ep_nil (ee_cmp op_inD' (vv (i := 3)) (ee_gv (d := (.str "0123456789")) rfl h.c_FIGURES (by decide)) rfl) (fun _ _ => rfl)) ea_nil (fun _ _ => rfl)) (fun _ _ => rfl) (fun _ => rfl) (by decide) (by decide)) (fun _ _ => rfl))))))) (es_cons (es_ret ee_non)
    es_nil) es_nil)
    (es_cons (es_if (et_w (ew_or (et_w (ew_and (et_cmp op_eqD' (ee_ix (vv (i := 0)) ee_int (fun _ _ => rfl)) (ee_str (by decide +kernel)) rfl) (ew_and1 (et_cmp op_neD' (vv (i := 0)) (ee_str (by decide +kernel)) rfl)))) (ew_or1 (et_not (et_chain op_leD op_leD (vv (i := 1)) (ee_callTy ca_intS rfl h.z_int bt_int (ea_cons (vv (i := 0)) ea_nil (fun _ _ => rfl)) (fun _ _ => rfl) (fun _ => rfl) (by decide) (by decide)) (vv (i := 2)) rfl))))) (es_cons (es_ret ee_non)
    es_nil) es_nil)
    (es_cons (es_ret (ee_callTy ca_intS rfl h.z_int bt_int (ea_cons (vv (i := 0)) ea_nil (fun _ _ => rfl)) (fun _ _ => rfl) (fun _ => rfl) (by decide) (by decide)))
    es_nil)))
theorem sc_is_name : FnScope ["thing", "sign"] ["thing"] (defScope s_is_name) := ⟨rfl, rfl, rfl, by decide +kernel, rfl, by decide +kernel, by decide +kernel⟩
def ce_is_name_1 : M Vl := (eP inD (cA (eV 1) (cA (eC (.str "abcdefghijklmnopqrstuvwxyz")) cN)))
def cp_is_name_1 : M Vl := eComp [1] (mStr (eV 0)) (gN 1) (rt true) ce_is_name_1
def b_is_name : SM := (sSeq (sIf (mOr (mNot (mB (eP isiD (cA (eV 0) (cA (eC (.ty "str")) cN))))) (mNot (mB (eChain leD leD (eC (.int 1)) (eP lenD (cA (eV 0) cN)) (eC (.int 6)))))) (sSeq (sRet (eC (.bl false)))
    sNil) sNil)
    (sSeq (sRet (eP allD (cA cp_is_name_1 cN)))
    sNil))
def F_is_name : Fs := ⟨runF [false] 2 b_is_name, [false]⟩
theorem sem_is_name (ds : List D) : F_is_name.sem ds = runF [false] 2 b_is_name ds := rfl
theorem sig_is_name : F_is_name.sig = [false] := rfl
theorem fn_is_name {g : G0} (h : Hyp g) : FnI g "is_name" 1 F_is_name :=
  fn_rule h.d_is_name sc_is_name rfl (es_cons (es_if (et_w (ew_or (et_not (et_val (ee_callB ca_isi rfl h.z_isinstance bt_isinstance (ea_cons (vv (i := 0)) (ea_cons (ee_ty (n := "str") rfl h.z_str bt_str (by decide) (by decide)) ea_nil (fun _ _ => rfl)) (fun _ _ => rfl)) (fun _ _ => rfl) (fun _ => rfl) (by decide) (by decide)) (fun _ _ => rfl))) (ew_or1 (et_not (et_chain op_leD op_leD ee_int (ee_callB ca_len rfl h.z_len bt_len (ea_cons (vv (i := 0)) ea_nil (fun _ _ => rfl)) (fun _ _ => rfl) (fun _ => rfl) (by decide) (by decide)) (ee_gv (d := (.int 6)) rfl h.c_LONGEST (by decide)) rfl))))) (es_cons (es_ret ee_bl)
    es_nil) es_nil)
    (es_cons (es_ret (ee_callB ca_all rfl h.z_all bt_all (ea_cons (ee_comp (own := [("sign", 1)]) (by first | decide +kernel | (dsimp only; decide +kernel) | rfl) (by decide) (by decide) (ei_str (vv (i := 0))) (eg_name (i := 1) rfl (by first | exact .inl rfl | exact .inr rfl) (by first | exact .inl rfl | exact .inr rfl)) ep_nil (ee_cmp op_inD' (vv (i := 1)) (ee_gv (d := (.str "abcdefghijklmnopqrstuvwxyz")) rfl h.c_LETTERS (by decide)) rfl) (fun _ _ => rfl)) ea_nil (fun _ _ => rfl)) (fun _ _ => rfl) (fun _ => rfl) (by decide) (by decide)))
    es_nil))
theorem sc_names_in : FnScope ["word", "most", "names", "name"] ["word", "most"] (defScope s_names_in) := ⟨rfl, rfl, rfl, by decide +kernel, rfl, by decide +kernel, by decide +kernel⟩
def ce_names_in_1 : M Vl := (eCallF F_is_name (cA (eV 3) cN))
def cp_names_in_1 : M Vl := eComp [3] (mTup (eV 2)) (gN 3) (rt true) ce_names_in_1
def b_names_in : SM := (sSeq (sAsg (eP tupleD (cA (eM "str" splitD (eV 0) (cA (eC (.str ",")) cN)) cN)) (gN 2))
    (sSeq (sRet (eIf (mTmp (mAnd (mB (eP leD (cA (eP lenD (cA (eV 2) cN)) (cA (eV 1) cN)))) (mB (eP allD (cA cp_names_in_1 cN))))) (eV 2) (eC .non)))
    sNil))
def F_names_in : Fs := ⟨runF [false, false] 4 b_names_in, [false, false]⟩
theorem sem_names_in (ds : List D) : F_names_in.sem ds = runF [false, false] 4 b_names_in ds := rfl
theorem sig_names_in : F_names_in.sig = [false, false] := rfl
theorem fn_names_in {g : G0} (h : Hyp g) : FnI g "names_in" 2 F_names_in :=
  fn_rule h.d_names_in sc_names_in rfl (es_cons (es_set (i := 2) rfl (by first | exact .inl rfl | exact .inr rfl) (ee_callTy ca_tuple rfl h.z_tuple bt_tuple (ea_cons (ee_meth me_split (vv (i := 0)) (ea_cons (ee_str (by decide +kernel)) ea_nil (fun _ _ => rfl)) (fun _ _ => rfl) (fun _ => rfl) (fun _ => rfl) rfl (fun _ => rfl)) ea_nil (fun _ _ => rfl)) (fun _ _ => rfl) (fun _ => rfl) (by decide) (by decide)) (fun _ => rfl) (.inl rfl))
    (es_cons (es_ret (ee_if (et_tmp (et_w (ew_and (et_cmp op_leD (ee_callB ca_len rfl h.z_len bt_len (ea_cons (vv (i := 2)) ea_nil (fun _ _ => rfl)) (fun _ _ => rfl) (fun _ => rfl) (by decide) (by decide)) (vv (i := 1)) rfl) (ew_and1 (et_val (ee_callB ca_all rfl h.z_all bt_all (ea_cons (ee_comp (own := [("name", 3)]) (by first | decide +kernel | (dsimp only; decide +kernel) | rfl) (by decide) (by decide) (ei_tup (vv (i := 2))) (eg_name (i := 3) rfl (by first | exact .inl rfl | exact .inr rfl) (by first | exact .inl rfl | exact .inr rfl)) ep_nil (ee_callF (fn_is_name h) (by decide) rfl (ea_cons (vv (i := 3)) ea_nil (fun _ _ => rfl)) (fun _ _ => rfl) (fun _ => rfl) (by decide)) (fun _ _ => rfl)) ea_nil (fun _ _ => rfl)) (fun _ _ => rfl) (fun _ => rfl) (by decide) (by decide)) (fun _ _ => rfl)))))) (vv (i := 2)) ee_non))
    es_nil))
theorem sc_are_rising : FnScope ["things", "one", "other"] ["things"] (defScope s_are_rising) := ⟨rfl, rfl, rfl, by decide +kernel, rfl, by decide +kernel, by decide +kernel⟩
def ce_are_rising_1 : M Vl := (eP ltD (cA (eV 1) (cA (eV 2) cN)))
def cp_are_rising_1 : M Vl := eComp [1, 2] (mZipM (cA (eV 0) (cA (eSl (eV 0) (oS (eC (.int 1))) oN) cN))) (gT 2 (gsC (gN 1) (gsC (gN 2) gsN))) (rt true) ce_are_rising_1
def b_are_rising : SM := (sSeq (sRet (eP allD (cA cp_are_rising_1 cN)))
    sNil)
def F_are_rising : Fs := ⟨runF [false] 3 b_are_rising, [false]⟩
theorem sem_are_rising (ds : List D) : F_are_rising.sem ds = runF [false] 3 b_are_rising ds := rfl
theorem sig_are_rising : F_are_rising.sig = [false] := rfl
theorem fn_are_rising {g : G0} (h : Hyp g) : FnI g "are_rising" 1 F_are_rising :=
  fn_rule h.d_are_rising sc_are_rising rfl (es_cons (es_ret (ee_callB ca_all rfl h.z_all bt_all (ea_cons (ee_comp (own := [("one", 1), ("other", 2)]) (by first | decide +kernel | (dsimp only; decide +kernel) | rfl) (by decide) (by decide) (ei_zipM rfl h.z_zip (ea_cons (vv (i := 0)) (ea_cons (ee_sl (vv (i := 0)) (eo_some ee_int) eo_none) ea_nil (fun _ _ => rfl)) (fun _ _ => rfl)) (fun _ _ => rfl) (fun _ _ => rfl)) (eg_tup (egs_cons (eg_name (i := 1) rfl (by first | exact .inl rfl | exact .inr rfl) (by first | exact .inl rfl | exact .inr rfl)) (egs_cons (eg_name (i := 2) rfl (by first | exact .inl rfl | exact .inr rfl) (by first | exact .inl rfl | exact .inr rfl)) egs_nil (fun _ => rfl)) (fun _ => rfl)) (fun _ => rfl) (fun _ => rfl)) ep_nil (ee_cmp op_ltD (vv (i := 1)) (vv (i := 2)) rfl) (fun _ _ => rfl)) ea_nil (fun _ _ => rfl)) (fun _ _ => rfl) (fun _ => rfl) (by decide) (by decide)))
    es_nil)
theorem sc_thing_in : FnScope ["form", "word", "names"] ["form", "word"] (defScope s_thing_in) := ⟨rfl, rfl, rfl, by decide +kernel, rfl, by decide +kernel, by decide +kernel⟩
def b_thing_in : SM := (sSeq (sIf (mB (eP (inPD pr_BOUNDS) (cA (eV 0) cN))) (sSeq (sRet (eCallF F_number_in (cA (eV 1) (cA (eP (bixD pr_BOUNDS 0) (cA (eV 0) cN)) (cA (eP (bixD pr_BOUNDS 1) (cA (eV 0) cN)) cN)))))
    sNil) sNil)
    (sSeq (sIf (mAnd (mB (eP eqD (cA (eV 0) (cA (eC (.str "below")) cN)))) (mB (eP eqD (cA (eV 1) (cA (eC (.str "-")) cN))))) (sSeq (sRet (eC (.str "")))
    sNil) sNil)
    (sSeq (sIf (mB (eP eqD (cA (eV 0) (cA (eC (.str "owners")) cN)))) (sSeq (sRet (eCallF F_names_in (cA (eV 1) (cA (eC (.int 12)) cN))))
    sNil) sNil)
    (sSeq (sIf (mB (eP eqD (cA (eV 0) (cA (eC (.str "fields")) cN)))) (sSeq (sAsg (eCallF F_names_in (cA (eV 1) (cA (eC (.int 8)) cN))) (gN 2))
    (sSeq (sRet (eIf (mAnd (mB (eP isnD (cA (eV 2) (cA (eC .non) cN)))) (mB (eCallF F_are_rising (cA (eV 2) cN)))) (eV 2) (eC .non)))
    sNil)) sNil)
    (sSeq (sRet (eIf (mB (eCallF F_is_name (cA (eV 1) cN))) (eV 1) (eC .non)))
    sNil)))))
def F_thing_in : Fs := ⟨runF [false, false] 3 b_thing_in, [false, false]⟩
theorem sem_thing_in (ds : List D) : F_thing_in.sem ds = runF [false, false] 3 b_thing_in ds := rfl
theorem sig_thing_in : F_thing_in.sig = [false, false] := rfl
theorem fn_thing_in {g : G0} (h : Hyp g) : FnI g "thing_in" 3 F_thing_in :=
  fn_rule h.d_thing_in sc_thing_in rfl (es_cons (es_if (et_inP rfl h.kp_BOUNDS (vv (i := 0)) (by decide) rfl) (es_cons (es_ret (ee_callF (fn_number_in h) (by decide) rfl (ea_cons (vv (i := 1)) (ea_cons (ee_bix rfl h.kp_BOUNDS (vv (i := 0)) (by decide) (fun _ _ => rfl) (fun _ _ => rfl)) (ea_cons (ee_bix rfl h.kp_BOUNDS (vv (i := 0)) (by decide) (fun _ _ => rfl) (fun _ _ => rfl)) ea_nil (fun _ _ => rfl)) (fun _ _ => rfl)) (fun _ _ => rfl)) (fun _ _ => rfl) (fun _ => rfl) (by decide)))
    es_nil) es_nil)
    (es_cons (es_if (et_w (ew_and (et_cmp op_eqD' (vv (i := 0)) (ee_str (by decide +kernel)) rfl) (ew_and1 (et_cmp op_eqD' (vv (i := 1)) (ee_str (by decide +kernel)) rfl)))) (es_cons (es_ret (ee_str (by decide +kernel)))
    es_nil) es_nil)
    (es_cons (es_if (et_cmp op_eqD' (vv (i := 0)) (ee_str (by decide +kernel)) rfl) (es_cons (es_ret (ee_callF (fn_names_in h) (by decide) rfl (ea_cons (vv (i := 1)) (ea_cons (ee_gv (d := (.int 12)) rfl h.c_MOST_RIGHTS (by decide)) ea_nil (fun _ _ => rfl)) (fun _ _ => rfl)) (fun _ _ => rfl) (fun _ => rfl) (by decide)))
    es_nil) es_nil)
    (es_cons (es_if (et_cmp op_eqD' (vv (i := 0)) (ee_str (by decide +kernel)) rfl) (es_cons (es_set (i := 2) rfl (by first | exact .inl rfl | exact .inr rfl) (ee_callF (fn_names_in h) (by decide) rfl (ea_cons (vv (i := 1)) (ea_cons (ee_gv (d := (.int 8)) rfl h.c_MOST_FIELDS (by decide)) ea_nil (fun _ _ => rfl)) (fun _ _ => rfl)) (fun _ _ => rfl) (fun _ => rfl) (by decide)) (fun _ => rfl) (.inl rfl))
    (es_cons (es_ret (ee_if (et_w (ew_and (et_cmp op_isnD (vv (i := 2)) ee_non rfl) (ew_and1 (et_val (ee_callF (fn_are_rising h) (by decide) rfl (ea_cons (vv (i := 2)) ea_nil (fun _ _ => rfl)) (fun _ _ => rfl) (fun _ => rfl) (by decide)) (fun _ _ => rfl))))) (vv (i := 2)) ee_non))
    es_nil)) es_nil)
    (es_cons (es_ret (ee_if (et_val (ee_callF (fn_is_name h) (by decide) rfl (ea_cons (vv (i := 1)) ea_nil (fun _ _ => rfl)) (fun _ _ => rfl) (fun _ => rfl) (by decide)) (fun _ _ => rfl)) (vv (i := 1)) ee_non))
    es_nil)))))
theorem sc_may_be : FnScope ["row"] ["row"] (defScope s_may_be) := ⟨rfl, rfl, rfl, by decide +kernel, rfl, by decide +kernel, by decide +kernel⟩
def b_may_be : SM := (sSeq (sIf (mB (eP inD (cA (eP ixD (cA (eV 0) (cA (eC (.int 0)) cN))) (cA (eTup (cA (eC (.str "wet")) (cA (eC (.str "dry")) (cA (eC (.str "nowet")) (cA (eC (.str "nodry")) cN))))) cN)))) (sSeq (sRet (eP leD (cA (eP ixD (cA (eV 0) (cA (eC (.int 2)) cN))) (cA (eP ixD (cA (eV 0) (cA (eC (.int 3)) cN))) cN))))
    sNil) sNil)
    (sSeq (sIf (mB (eP eqD (cA (eP ixD (cA (eV 0) (cA (eC (.int 0)) cN))) (cA (eC (.str "lend")) cN)))) (sSeq (sRet (eP neD (cA (eP ixD (cA (eV 0) (cA (eC (.int 3)) cN))) (cA (eP ixD (cA (eV 0) (cA (eC (.int 4)) cN))) cN))))
    sNil) sNil)
    (sSeq (sIf (mB (eP eqD (cA (eP ixD (cA (eV 0) (cA (eC (.int 0)) cN))) (cA (eC (.str "payback")) cN)))) (sSeq (sRet (eAnd (eP neD (cA (eP ixD (cA (eV 0) (cA (eC (.int 1)) cN))) (cA (eP ixD (cA (eV 0) (cA (eC (.int 2)) cN))) cN))) (eChain leD ltD (eC (.int 0)) (eP subD (cA (eP ixD (cA (eV 0) (cA (eC (.int 4)) cN))) (cA (eP ixD (cA (eV 0) (cA (eC (.int 3)) cN))) cN))) (eC (.int 10)))))
    sNil) sNil)
    (sSeq (sRet (eC (.bl true)))
    sNil))))
def F_may_be : Fs := ⟨runF [false] 1 b_may_be, [false]⟩
theorem sem_may_be (ds : List D) : F_may_be.sem ds = runF [false] 1 b_may_be ds := rfl
theorem sig_may_be : F_may_be.sig = [false] := rfl
theorem fn_may_be {g : G0} (h : Hyp g) : FnI g "may_be" 1 F_may_be :=
  fn_rule h.d_may_be sc_may_be rfl (es_cons (es_if (et_cmp op_inD' (ee_ix (vv (i := 0)) ee_int (fun _ _ => rfl)) (ee_tup (ea_cons (ee_str (by decide +kernel)) (ea_cons (ee_str (by decide +kernel)) (ea_cons (ee_str (by decide +kernel)) (ea_cons (ee_str (by decide +kernel)) ea_nil (fun _ _ => rfl)) (fun _ _ => rfl)) (fun _ _ => rfl)) (fun _ _ => rfl))) rfl) (es_cons (es_ret (ee_cmp op_leD (ee_ix (vv (i := 0)) ee_int (fun _ _ => rfl)) (ee_ix (vv (i := 0)) ee_int (fun _ _ => rfl)) rfl))
    es_nil) es_nil)
    (es_cons (es_if (et_cmp op_eqD' (ee_ix (vv (i := 0)) ee_int (fun _ _ => rfl)) (ee_str (by decide +kernel)) rfl) (es_cons (es_ret (ee_cmp op_neD' (ee_ix (vv (i := 0)) ee_int (fun _ _ => rfl)) (ee_ix (vv (i := 0)) ee_int (fun _ _ => rfl)) rfl))
    es_nil) es_nil)
    (es_cons (es_if (et_cmp op_eqD' (ee_ix (vv (i := 0)) ee_int (fun _ _ => rfl)) (ee_str (by decide +kernel)) rfl) (es_cons (es_ret (ee_and (ee_cmp op_neD' (ee_ix (vv (i := 0)) ee_int (fun _ _ => rfl)) (ee_ix (vv (i := 0)) ee_int (fun _ _ => rfl)) rfl) (ee_one (ee_chain op_leD op_ltD ee_int (ee_bin op_subD (ee_ix (vv (i := 0)) ee_int (fun _ _ => rfl)) (ee_ix (vv (i := 0)) ee_int (fun _ _ => rfl))) (ee_gv (d := (.int 10)) rfl h.c_MOST_DAYS (by decide)) rfl))))
    es_nil) es_nil)
    (es_cons (es_ret ee_bl)
    es_nil))))
theorem sc_read_row : FnScope ["row", "words", "form", "found", "word", "one"] ["row"] (defScope s_read_row) := ⟨rfl, rfl, rfl, by decide +kernel, rfl, by decide +kernel, by decide +kernel⟩
def ce_read_row_1 : M Vl := (eCallF F_thing_in (cA (eV 5) (cA (eV 4) cN)))
def cp_read_row_1 : M Vl := eComp [5, 4] (mZipC tb_FORMS (cA (eV 2) (cA (eSl (eV 1) (oS (eC (.int 1))) oN) cN))) (gT 2 (gsC (gN 5) (gsC (gN 4) gsN))) (rt true) ce_read_row_1
def ce_read_row_2 : M Vl := (eV 4)
def cp_read_row_2 : M Vl := eComp [4] (mLst (eM "str" splitD (eV 0) (cA (eC (.str " ")) cN))) (gN 4) (mB (eP neD (cA (eV 4) (cA (eC (.str "")) cN)))) ce_read_row_2
def b_read_row : SM := (sSeq (sAsg cp_read_row_2 (gN 1))
    (sSeq (sIf (mB (eP eqD (cA (eV 1) (cA (eLst cN) cN)))) (sSeq (sRet (eTup cN))
    sNil) sNil)
    (sSeq (sAsg (eP (cgetD ky_FORMS) (cA (eP ixD (cA (eV 1) (cA (eC (.int 0)) cN))) cN)) (gN 2))
    (sSeq (sIf (mOr (mB (eP isD (cA (eV 2) (cA (eC .non) cN)))) (mB (eP neD (cA (eP (lenCD tb_FORMS) (cA (eV 2) cN)) (cA (eP subD (cA (eP lenD (cA (eV 1) cN)) (cA (eC (.int 1)) cN))) cN))))) (sSeq (sRet (eC .non))
    sNil) sNil)
    (sSeq (sAsg (eP tupleD (cA (eP addD (cA (eLst (cA (eP ixD (cA (eV 1) (cA (eC (.int 0)) cN))) cN)) (cA cp_read_row_1 cN))) cN)) (gN 3))
    (sSeq (sRet (eIf (mOr (mB (eP inTD (cA (eC .non) (cA (eV 3) cN)))) (mNot (mB (eCallF F_may_be (cA (eV 3) cN))))) (eC .non) (eV 3)))
    sNil))))))
def F_read_row : Fs := ⟨runF [false] 6 b_read_row, [false]⟩
theorem sem_read_row (ds : List D) : F_read_row.sem ds = runF [false] 6 b_read_row ds := rfl
theorem sig_read_row : F_read_row.sig = [false] := rfl
theorem fn_read_row {g : G0} (h : Hyp g) : FnI g "read_row" 4 F_read_row :=
  fn_rule h.d_read_row sc_read_row rfl (es_cons (es_setLc (i := 1) rfl rfl (fun env he => by cases env; cases he; rfl) (own := [("word", 4)]) (by first | decide +kernel | (dsimp only; decide +kernel) | rfl) (by decide) (by decide) (ei_list (ee_meth me_split (vv (i := 0)) (ea_cons (ee_str (by decide +kernel)) ea_nil (fun _ _ => rfl)) (fun _ _ => rfl) (fun _ => rfl) (fun _ => rfl) rfl (fun _ => rfl))) (eg_name (i := 4) rfl (by first | exact .inl rfl | exact .inr rfl) (by first | exact .inl rfl | exact .inr rfl)) (ep_one (et_cmp op_neD' (vv (i := 4)) (ee_str (by decide +kernel)) rfl)) (vv (i := 4)) (fun _ _ => rfl))
    (es_cons (es_if (et_cmp op_eqD' (vv (i := 1)) (ee_lst ea_nil) rfl) (es_cons (es_ret (ee_tup ea_nil))
    es_nil) es_nil)
    (es_cons (es_set (i := 2) rfl (by first | exact .inl rfl | exact .inr rfl) (ee_getC rfl h.kc_FORMS (ee_ix (vv (i := 1)) ee_int (fun _ _ => rfl)) (fun _ => rfl) (fun _ => rfl) rfl (fun _ => rfl) (by decide)) (fun _ => rfl) (.inl rfl))
    (es_cons (es_if (et_w (ew_or (et_cmp op_isD (vv (i := 2)) ee_non rfl) (ew_or1 (et_cmp op_neD' (ee_callB (ca_lenC h.tr_FORMS) rfl h.z_len bt_len (ea_cons (vv (i := 2)) ea_nil (fun _ _ => rfl)) (fun _ _ => rfl) (fun _ => rfl) (by decide) (by decide)) (ee_bin op_subD (ee_callB ca_len rfl h.z_len bt_len (ea_cons (vv (i := 1)) ea_nil (fun _ _ => rfl)) (fun _ _ => rfl) (fun _ => rfl) (by decide) (by decide)) ee_int) rfl)))) (es_cons (es_ret ee_non)
    es_nil) es_nil)
    (es_cons (es_set (i := 3) rfl (by first | exact .inl rfl | exact .inr rfl) (ee_callTy ca_tuple rfl h.z_tuple bt_tuple (ea_cons (ee_bin op_addD (ee_lst (ea_cons (ee_ix (vv (i := 1)) ee_int (fun _ _ => rfl)) ea_nil (fun _ _ => rfl))) (ee_comp (own := [("one", 5), ("word", 4)]) (by first | decide +kernel | (dsimp only; decide +kernel) | rfl) (by decide) (by decide) (ei_zipC h.tr_FORMS rfl h.z_zip (ea_cons (vv (i := 2)) (ea_cons (ee_sl (vv (i := 1)) (eo_some ee_int) eo_none) ea_nil (fun _ _ => rfl)) (fun _ _ => rfl)) (fun _ _ => rfl) (fun _ _ => rfl)) (eg_tup (egs_cons (eg_name (i := 5) rfl (by first | exact .inl rfl | exact .inr rfl) (by first | exact .inl rfl | exact .inr rfl)) (egs_cons (eg_name (i := 4) rfl (by first | exact .inl rfl | exact .inr rfl) (by first | exact .inl rfl | exact .inr rfl)) egs_nil (fun _ => rfl)) (fun _ => rfl)) (fun _ => rfl) (fun _ => rfl)) ep_nil (ee_callF (fn_thing_in h) (by decide) rfl (ea_cons (vv (i := 5)) (ea_cons (vv (i := 4)) ea_nil (fun _ _ => rfl)) (fun _ _ => rfl)) (fun _ _ => rfl) (fun _ => rfl) (by decide)) (fun _ _ => rfl))) ea_nil (fun _ _ => rfl)) (fun _ _ => rfl) (fun _ => rfl) (by decide) (by decide)) (fun _ => rfl) (.inl rfl))
    (es_cons (es_ret (ee_if (et_w (ew_or (et_cmp op_inTD ee_non (vv (i := 3)) rfl) (ew_or1 (et_not (et_val (ee_callF (fn_may_be h) (by decide) rfl (ea_cons (vv (i := 3)) ea_nil (fun _ _ => rfl)) (fun _ _ => rfl) (fun _ => rfl) (by decide)) (fun _ _ => rfl)))))) ee_non (vv (i := 3))))
    es_nil))))))
theorem sc_law : FnScope ["_law_script", "_law_words_here", "_law_k", "_law_box_here", "_law_names", "_law_first", "_law_turn", "_law_row_here", "_law_text_here", "_law_loose_here", "_law_line"] ["_law_script"] (defScope s_law) := ⟨rfl, rfl, rfl, by decide +kernel, rfl, by decide +kernel, by decide +kernel⟩
def fb_law_1 : SM := (sSeq (sIf (mNot (mB (eCallF (F__law_same 5) (cA (eCallF F_read_row (cA (eV 10) cN)) (cA (eV 7) cN))))) (sSeq (sRet (eC (.bl false)))
    sNil) sNil)
    sNil)
def fl_law_1 : SM := sFor (mTup (eTup (cA (eV 8) (cA (eIf (mB (eP leD (cA (eP lenD (cA (eV 9) cN)) (cA (eC (.int 120)) cN)))) (eV 9) (eV 8)) (cA (eV 8) cN))))) (gN 10) fb_law_1
def fb_law_2 : SM := (sSeq (sAsg (eCallF F__law_row (cA (eV 3) (cA (eV 4) (cA (eP ixD (cA (eV 1) (cA (eP modD (cA (eP addD (cA (eV 5) (cA (eP mulD (cA (eC (.int 5)) (cA (eV 6) cN))) cN))) (cA (eC (.int 24)) cN))) cN))) cN)))) (gN 7))
    (sSeq (sAsg (eCallF F__law_text (cA (eV 7) cN)) (gN 8))
    (sSeq (sAsg (eCallF F__law_loose (cA (eV 3) (cA (eV 8) cN))) (gN 9))
    (sSeq fl_law_1
    sNil))))
def fl_law_2 : SM := sFor (mR1 (cA (eC (.int 8)) cN)) (gN 6) fb_law_2
def fb_law_3 : SM := (sSeq (sAsg (eCallF F__law_box (cA (eV 0) (cA (eV 2) cN))) (gN 3))
    (sSeq (sPF 4 5 (eCallF F__law_words (cA (eV 3) (cA (eC (.int 9)) cN))) (eCallF F__law_take (cA (eV 3) (cA (eC (.int 24)) cN))))
    (sSeq fl_law_2
    (sSeq (sIf (mNot (mB (eCallF (F__law_same 5) (cA (eLst (cA (eCallF F_read_row (cA (eC (.str "")) cN)) (cA (eCallF F_read_row (cA (eP mulSD (cA (eC (.str " ")) (cA (eP addD (cA (eC (.int 1)) (cA (eCallF F__law_take (cA (eV 3) (cA (eC (.int 120)) cN))) cN))) cN))) cN)) cN))) (cA (eLst (cA (eTup cN) (cA (eTup cN) cN))) cN))))) (sSeq (sRet (eC (.bl false)))
    sNil) sNil)
    sNil))))
def fl_law_3 : SM := sFor (mR1 (cA (eP maxD (cA (eC (.int 4)) (cA (eP minD (cA (eC (.int 20)) (cA (eP lenD (cA (eV 0) cN)) cN))) cN))) cN)) (gN 2) fb_law_3
def b_law : SM := (sSeq (sAsg (eM "str" splitD (eC (.str "field gate begin rain sun lend let shut wet dry nowet nodry breach mend")) (cA (eC (.str " ")) cN)) (gN 1))
    (sSeq (sAsg (eP addD (cA (eV 1) (cA (eM "str" splitD (eC (.str "undo stands rows holder owing payback fault plan drowns lost")) (cA (eC (.str " ")) cN)) cN))) (gN 1))
    (sSeq fl_law_3
    (sSeq (sRet (eC (.bl true)))
    sNil))))
def F_law : Fs := ⟨runF [false] 11 b_law, [false]⟩
theorem sem_law0 (ds : List D) : F_law.sem ds = runF [false] 11 b_law ds := rfl
theorem sig_law : F_law.sig = [false] := rfl
theorem fg_law {g : G0} (h : Hyp g) {f : Addr} {fd : FuncData} (hf : Fun g.K "law" "law" s_law f fd) : FnG g 7 f fd ["_law_script"] (spF g.K F_law) :=
  fn_at hf sc_law rfl (es_cons (es_set (i := 1) rfl (by first | exact .inl rfl | exact .inr rfl) (ee_meth me_split (ee_str (by decide +kernel)) (ea_cons (ee_str (by decide +kernel)) ea_nil (fun _ _ => rfl)) (fun _ _ => rfl) (fun _ => rfl) (fun _ => rfl) rfl (fun _ => rfl)) (fun _ => rfl) (.inl rfl))
    (es_cons (es_set (i := 1) rfl (by first | exact .inl rfl | exact .inr rfl) (ee_bin op_addD (vv (i := 1)) (ee_meth me_split (ee_str (by decide +kernel)) (ea_cons (ee_str (by decide +kernel)) ea_nil (fun _ _ => rfl)) (fun _ _ => rfl) (fun _ => rfl) (fun _ => rfl) rfl (fun _ => rfl))) (fun _ => rfl) (.inl rfl))
    (es_cons (es_for (ei_r1 rfl h.z_range (ea_cons (ee_callB ca_max rfl h.z_max bt_max (ea_cons ee_int (ea_cons (ee_callB ca_min rfl h.z_min bt_min (ea_cons ee_int (ea_cons (ee_callB ca_len rfl h.z_len bt_len (ea_cons (vv (i := 0)) ea_nil (fun _ _ => rfl)) (fun _ _ => rfl) (fun _ => rfl) (by decide) (by decide)) ea_nil (fun _ _ => rfl)) (fun _ _ => rfl)) (fun _ _ => rfl) (fun _ => rfl) (by decide) (by decide)) ea_nil (fun _ _ => rfl)) (fun _ _ => rfl)) (fun _ _ => rfl) (fun _ => rfl) (by decide) (by decide)) ea_nil (fun _ _ => rfl)) (fun _ _ => rfl)) (eg_name (i := 2) rfl (by first | exact .inl rfl | exact .inr rfl) (by first | exact .inl rfl | exact .inr rfl)) (es_cons (es_set (i := 3) rfl (by first | exact .inl rfl | exact .inr rfl) (ee_callF (fn__law_box h) (by decide) rfl (ea_cons (vv (i := 0)) (ea_cons (vv (i := 2)) ea_nil (fun _ _ => rfl)) (fun _ _ => rfl)) (fun _ _ => rfl) (fun _ => rfl) (by decide)) (fun _ => rfl) (.inl rfl))
    (es_cons (es_pf (i := 4) (j := 5) rfl rfl (by decide) rfl rfl (ee_callF (fn__law_words h) (by decide) rfl (ea_cons (vv (i := 3)) (ea_cons ee_int ea_nil (fun _ _ => rfl)) (fun _ _ => rfl)) (fun _ _ => rfl) (fun _ => rfl) (by decide)) (ee_callF (fn__law_take h) (by decide) rfl (ea_cons (vv (i := 3)) (ea_cons ee_int ea_nil (fun _ _ => rfl)) (fun _ _ => rfl)) (fun _ _ => rfl) (fun _ => rfl) (by decide)) (fun _ _ => rfl) (fun _ _ => rfl) (fun env he => by cases env; cases he; rfl) (fun _ => rfl))
    (es_cons (es_for (ei_r1 rfl h.z_range (ea_cons ee_int ea_nil (fun _ _ => rfl)) (fun _ _ => rfl)) (eg_name (i := 6) rfl (by first | exact .inl rfl | exact .inr rfl) (by first | exact .inl rfl | exact .inr rfl)) (es_cons (es_set (i := 7) rfl (by first | exact .inl rfl | exact .inr rfl) (ee_callF (fn__law_row h) (by decide) rfl (ea_cons (vv (i := 3)) (ea_cons (vv (i := 4)) (ea_cons (ee_ix (vv (i := 1)) (ee_bin op_modD (ee_bin op_addD (vv (i := 5)) (ee_bin op_mulD ee_int (vv (i := 6)))) ee_int) (fun _ _ => rfl)) ea_nil (fun _ _ => rfl)) (fun _ _ => rfl)) (fun _ _ => rfl)) (fun _ _ => rfl) (fun _ => rfl) (by decide)) (fun _ => rfl) (.inl rfl))
    (es_cons (es_set (i := 8) rfl (by first | exact .inl rfl | exact .inr rfl) (ee_callF (fn__law_text h) (by decide) rfl (ea_cons (vv (i := 7)) ea_nil (fun _ _ => rfl)) (fun _ _ => rfl) (fun _ => rfl) (by decide)) (fun _ => rfl) (.inl rfl))
    (es_cons (es_set (i := 9) rfl (by first | exact .inl rfl | exact .inr rfl) (ee_callF (fn__law_loose h) (by decide) rfl (ea_cons (vv (i := 3)) (ea_cons (vv (i := 8)) ea_nil (fun _ _ => rfl)) (fun _ _ => rfl)) (fun _ _ => rfl) (fun _ => rfl) (by decide)) (fun _ => rfl) (.inl rfl))
    (es_cons (es_for (ei_tup (ee_tup (ea_cons (vv (i := 8)) (ea_cons (ee_if (et_cmp op_leD (ee_callB ca_len rfl h.z_len bt_len (ea_cons (vv (i := 9)) ea_nil (fun _ _ => rfl)) (fun _ _ => rfl) (fun _ => rfl) (by decide) (by decide)) ee_int rfl) (vv (i := 9)) (vv (i := 8))) (ea_cons (vv (i := 8)) ea_nil (fun _ _ => rfl)) (fun _ _ => rfl)) (fun _ _ => rfl)))) (eg_name (i := 10) rfl (by first | exact .inl rfl | exact .inr rfl) (by first | exact .inl rfl | exact .inr rfl)) (es_cons (es_if (et_not (et_val (ee_callF (fn__law_same h 5) (by decide) rfl (ea_cons (ee_callF (fn_read_row h) (by decide) rfl (ea_cons (vv (i := 10)) ea_nil (fun _ _ => rfl)) (fun _ _ => rfl) (fun _ => rfl) (by decide)) (ea_cons (vv (i := 7)) ea_nil (fun _ _ => rfl)) (fun _ _ => rfl)) (fun _ _ => rfl) (fun _ => rfl) (by decide)) (fun _ _ => rfl))) (es_cons (es_ret ee_bl)
    es_nil) es_nil)
    es_nil) (fun _ _ => rfl))
    es_nil)))) (fun _ _ => rfl))
    (es_cons (es_if (et_not (et_val (ee_callF (fn__law_same h 5) (by decide) rfl (ea_cons (ee_lst (ea_cons (ee_callF (fn_read_row h) (by decide) rfl (ea_cons (ee_str (by decide +kernel)) ea_nil (fun _ _ => rfl)) (fun _ _ => rfl) (fun _ => rfl) (by decide)) (ea_cons (ee_callF (fn_read_row h) (by decide) rfl (ea_cons (ee_bin op_mulSD (ee_str (by decide +kernel)) (ee_bin op_addD ee_int (ee_callF (fn__law_take h) (by decide) rfl (ea_cons (vv (i := 3)) (ea_cons ee_int ea_nil (fun _ _ => rfl)) (fun _ _ => rfl)) (fun _ _ => rfl) (fun _ => rfl) (by decide)))) ea_nil (fun _ _ => rfl)) (fun _ _ => rfl) (fun _ => rfl) (by decide)) ea_nil (fun _ _ => rfl)) (fun _ _ => rfl))) (ea_cons (ee_lst (ea_cons (ee_tup ea_nil) (ea_cons (ee_tup ea_nil) ea_nil (fun _ _ => rfl)) (fun _ _ => rfl))) ea_nil (fun _ _ => rfl)) (fun _ _ => rfl)) (fun _ _ => rfl) (fun _ => rfl) (by decide)) (fun _ _ => rfl))) (es_cons (es_ret ee_bl)
    es_nil) es_nil)
    es_nil)))) (fun _ _ => rfl))
    (es_cons (es_ret ee_bl)
    es_nil))))
end L_k75
namespace L_k75
open PySem PySem.Spec PyProof.Rows L2 PD
local macro_rules | `(tactic| simp_arith [$xs,*]) => `(tactic| try simp only [↓W_eDispT, ↓W_eLkT, ↓WV_nSetS, ↓WV_nRet, ↓WVT_nNin, ↓WV_nAhPut, ↓WV_nPut, ↓WV_nAug, ↓WV_nSetd, ↓WV_nBes, ↓WO_cW, ↓WV_nCallW, ↓WV_nSetW, ↓W_eMethN, ↓W_eMethS, ↓W_eNW, ↓W_eNB, ↓WV_nNil, ↓WV_nSeq, ↓WV_nIf, ↓WVT_nTst, ↓WVT_nAndT, ↓WV_nLift, ↓WV_nFrz, ↓WV_nFor, ↓W_ckB, ↓W_eCallR, ↓W_eCallB, ↓W_eFT, ↓W_eFS, ↓W_eP1, ↓W_sExpB, ↓W_sRetB, ↓W_sSetB, ↓W_sRetZ, ↓W_sKeep, ↓W_sSea, ↓W_sPop, ↓W_eOpB, ↓W_mNew, ↓W_sNewB, ↓W_sNewP, ↓WO_runR, ↓WO_runB, ↓W_eDisp, ↓W_qN, ↓W_qA, ↓W_qJs, ↓W_qJi, ↓W_rt, ↓W_bd, ↓W_eC, ↓W_eV, ↓W_cN, ↓W_cA, ↓W_eP, ↓W_eM, ↓W_eMf, ↓W_ckF, ↓W_ckT, ↓W_eU, ↓W_eUC, ↓W_eTup, ↓W_eLst, ↓W_eDk, ↓W_eDt, ↓W_mB, ↓W_mT, ↓W_mNot, ↓W_mAnd, ↓W_mOr, ↓W_eNot, ↓W_eAnd, ↓W_eOr, ↓W_eIf, ↓W_eTmp, ↓W_eTmpA, ↓W_cNn, ↓W_cAn, ↓W_eTmpL, ↓W_mTmp, ↓W_oN, ↓W_oS, ↓W_eSl, ↓W_eChain, ↓W_sNil, ↓W_sPass, ↓W_sBrk, ↓W_sCnt, ↓W_sRetN, ↓W_sSeq, ↓W_sExp, ↓W_sRet, ↓W_sIf, ↓W_sAsg, ↓W_gsN, ↓W_gsC, ↓W_gT, ↓W_gTl, ↓W_gS, ↓W_sRaise0, ↓W_sRaise1, ↓W_sTryK, ↓W_sCallX, ↓W_hb_im, ↓W_hb_fr, ↓W_hb_bo, ↓W_sPF, ↓W_sPF3, ↓W_sPF4, ↓W_gN_im, ↓W_gN_fr, ↓W_gN_bo, ↓W_frz_im, ↓W_frz_fr, ↓W_frz_bo, ↓W_frzs_nil, ↓W_frzs_cons, ↓W_frzA_nil, ↓W_frzA_t, ↓W_frzA_im, ↓W_frzA_bo, ↓W_callE, ↓W_eCallN, ↓W_eCallF, ↓WO_runF, ↓W_mR1, ↓W_mR2, ↓W_mR3, ↓W_eRev, ↓W_eRev2, ↓W_eRev7, ↓W_eFrz, ↓W_eGetZ, ↓W_eKf, ↓W_eLk, ↓W_mLst, ↓W_mLz, ↓W_mTup, ↓W_mEnum, ↓W_mEnumT, ↓W_mStr, ↓W_mDk, ↓W_mZip, ↓W_sFor, ↓W_sWhl, ↓W_eComp, ↓W_eTupB, ↓W_sAug, ↓W_sAugS, ↓W_eTmpD, ↓W_eTmpU, ↓W_sLkS, ↓W_mDi, ↓W_mZipM, ↓Rw_to4, ↓Rw_from4, ↓W_gT_Fld, ↓W_gT_Gt, ↓W_gT_Lt, ↓W_gT_bD, ↓W_gT_Dn, ↓W_gT_Rw, ↓Fld_i0, ↓Fld_i1, ↓Fld_i2, ↓Fld_i3, ↓Fld_i4, ↓Gt_i0, ↓Gt_i1, ↓Gt_i2, ↓Gt_i3, ↓Lt_i0, ↓Lt_i1, ↓Lt_i2, ↓bD_i0, ↓bD_i1, ↓Dn_i0, ↓Dn_i1, ↓Dn_i2, ↓Dn_i3, ↓Rw_i0, ↓Rw_i1, ↓Rw_i2, ↓Rw_i3, ↓Rw_i4, ↓Rw_i5, ↓Rw_i6, ↓Ter_i0, ↓Ter_i1, imsV_nil, imsV_cons, okSl_im, okSl_em, okSl_ow, nd1_im, kd1_im, int1_im, kv1_im, isNs_nt, noBo, nxV_nx, isEm_em, isNt_nt, thE_nil, thE_cons, isIm_im, isIm_em, isIm_ow, slNm_em, slNm_im, slNm_ow, nm_nd, nodeD_nd, keyW_nd, bkO, bkNO, setBk_nil, setBk_cons, setBk_em, setBk_im, setBk_ow, setBk_io, setBk_bk, insB0, insB1, insB2, insB3, isBk_bk, BkS.nm, Vl.nmB, FnN_sig, Fk_sem, Fk_sig, exV_im, exV_ex, exOf_ex, exOf_nx, tyF, frK_fr, nxK_nx, lstLF, atomV, WO_map, WO_some, WO_none, WB_true, WB_false, WC_true, goes_nx, goes_ct, goes_bk, goes_rt, cut_nx, cut_bk, cut_ct, cut_rt, List.eraseIdx_cons_zero, List.eraseIdx_cons_succ, puts_nil, puts_cons, List.getElem?_cons_zero, List.getElem?_cons_succ, setO, frzO_eq, Option.map_some, putO, putC, List.set_cons_zero, List.set_cons_succ, mutAtD, only, dropM, mutL, PD.cnts, PD.cnt, Vl.hold, tyT, beq_self_eq_true, small_eq, lessL_eq, decide_true, decide_false, List.length_cons, List.length_nil, mkE, List.replicate_succ, List.replicate_zero, List.cons_append, List.nil_append, outE, retV, ioAll, ioIx, brIx, mutAt, updE, disj, nmOut, Vl.nm, D.nm, D.nmC, nms, Sl.mut, Sl.frz, D.atom, List.map_cons, List.map_nil, wipeE, unwipe, calm_em, calm_im, calm_none, List.all_cons, List.all_nil, Bool.and_true, Bool.true_and, Bool.and_self, Bool.or_true, Bool.or_self, Bool.true_or, Bool.false_or, Bool.or_false, Bool.not_true, Bool.not_false, Bool.and_false, Bool.false_and, List.isEmpty_nil, List.isEmpty_cons, List.nodup_cons, List.nodup_nil, List.not_mem_nil, not_false_eq_true, and_self, List.contains_nil, if_true, if_false, Bool.false_eq_true, ite_true, ite_false, rg1, rg2, rg3_10, revLD, rev2D, rev7D, addND, subND, seqL, seqZ, seqT, zipO, addD, subD, mulD, mulTD, divD, modD, powD, negD, ltD, leD, gtD, geD, lenD, absD, minD, maxD, PD.intD, ixD, isnD, appendD, reverseD, extendD, slD, setD, listD, tupleD, tupleBD, truD, at0, at1, at2, at3, at4, at5, at6, at7, sd0, sd1, sd2, sd3, ixN, Int.cast_ofNat_Int, Int.reduceEq, Int.reduceNe, Int.reduceLT, Int.reduceLE, Int.reduceNeg, Int.reduceAdd, Int.reduceSub, Int.reduceMul, Int.reducePow, Nat.reducePow, Int.reduceToNat, Int.reduceAbs, ne_eq, not_true_eq_false, Nat.zero_add, Nat.add_zero, Nat.reduceAdd, Nat.reduceSub, Nat.reduceLT, Nat.reduceLeDiff, Nat.reduceEqDiff, Nat.reduceMul, i63_0, i63_1, zipMO_lt, zipMO_tl, zipMO_ll, List.flatten_cons, List.flatten_nil, Nat.lt_irrefl, reduceCtorEq, Nat.zero_lt_succ, Nat.reduceSubDiff, Nat.sub_zero, Nat.sub_self, Bool.not_eq_true, Bool.not_eq_false, b__law_box, b__law_take, ce__law_words_1, cp__law_words_1, ce__law_words_2, cp__law_words_2, ce__law_words_3, cp__law_words_3, fl__law_words_4, b__law_words, fl__law_text_1, b__law_text, fl__law_row_1, ce__law_row_2, cp__law_row_2, b__law_row, fl__law_loose_1, b__law_loose, ce__law_same_1, cp__law_same_1, b__law_same, ce_number_in_1, cp_number_in_1, b_number_in, ce_is_name_1, cp_is_name_1, b_is_name, ce_names_in_1, cp_names_in_1, b_names_in, ce_are_rising_1, cp_are_rising_1, b_are_rising, b_thing_in, b_may_be, ce_read_row_1, cp_read_row_1, ce_read_row_2, cp_read_row_2, b_read_row, fl_law_1, fl_law_2, fl_law_3, b_law, sig__law_box, sig__law_take, sig__law_words, sig__law_text, sig__law_row, sig__law_loose, sig_number_in, sig_is_name, sig_names_in, sig_are_rising, sig_thing_in, sig_may_be, sig_read_row, sig_law, ↓W_mZipC, $xs,*])
local macro_rules | `(tactic| simp_arith) => `(tactic| simp_arith [W_cN])
/-- what is drawn from: n takes at most were made -/
def Lf (n : Nat) (l : D) : Prop := ∃ a b j : Int, l = .lst [.int a, .int b, .int j] ∧ 0 ≤ a ∧ 0 ≤ b ∧ b < 2 ^ 33 ∧ 0 ≤ j ∧ j ≤ n
theorem Lf.mono {n m : Nat} {l : D} (h : Lf n l) (hn : n ≤ m) : Lf m l := by
  obtain ⟨a, b, j, e, h1, h2, h3, h4, h5⟩ := h
  exact ⟨a, b, j, e, h1, h2, h3, h4, by omega⟩
theorem box_wp {ns : List Int} {k : Int} {K : Vl × List D → Prop} (h0 : 0 ≤ k) (h1 : k < 100) (q : ∀ l, Lf 0 l → K (.fr l, [.sc ns, .int k])) : @WO _ (F__law_box.sem [.sc ns, .int k]) ⟨K⟩ := by
  have m1 : s64 (7919 : Int) = true := by decide
  have m2 : s64 (1 : Int) = true := by decide
  have m3 : s64 (0 : Int) = true := by decide
  have fin : ∀ c : Int, Lf 0 (.lst [.int ((if c < 0 then -c else c) * 1), .int (Int.fmod c 2147483629 + 7919 * k + 11), .int 0]) ∧ Lf 0 (.lst [.int ((if c < 0 then -c else c) * 0), .int (Int.fmod c 2147483629 + 7919 * k + 11), .int 0]) := fun c => by
    have h1 := Int.fmod_nonneg_of_pos c (b := 2147483629) (by decide)
    have h2 := Int.fmod_lt_of_pos c (b := 2147483629) (by decide)
    exact ⟨⟨_, _, _, rfl, by split <;> omega, by omega, by omega, by decide, by decide⟩, ⟨_, _, _, rfl, by omega, by omega, by omega, by decide, by decide⟩⟩
  rw [sem__law_box]
  simp_arith
  refine WB_cases' (fun hc => ?_) (fun hc => ?_)
  · simp_arith
    refine WO_at h0 hc fun j c _ hj => ?_
    simp_arith
    by_cases hb : (1000000000000000000 : Int) ≤ (if c < 0 then -c else c)
    · simp_arith [hb, m1, m2, Bool.or_true]
      exact q _ (fin c).1
    · simp_arith [hb, m1, m3, Bool.or_true]
      exact q _ (fin c).2
  · have h2 := Int.fmod_nonneg_of_pos (0 : Int) (b := 2147483629) (by decide)
    have h3 := Int.fmod_lt_of_pos (0 : Int) (b := 2147483629) (by decide)
    simp_arith [m1, m3, Bool.or_true]
    exact q _ ⟨_, _, _, rfl, by decide, by omega, by omega, by decide, by decide⟩
theorem pick_wp {n : Nat} {l : D} {m : Int} {K : Vl × List D → Prop} (h : Lf n l) (hn : n < 2 ^ 30) (hm : 0 < m) (hm2 : m < 2 ^ 30) (q : ∀ (r : Int) (l' : D), 0 ≤ r → r < m → Lf (n + 1) l' → K (.im (.int r), [l', .int m])) : @WO _ (F__law_take.sem [l, .int m]) ⟨K⟩ := by
  obtain ⟨a, b, j, rfl, ha, hb, hb2, hj, hj2⟩ := h
  have m0 : (m = 0) = False := by simp; omega
  have m1 : (m.natAbs < 1073741824) = True := by simp; omega
  rw [sem__law_take]
  simp_arith [m0, m1]
  refine WB_cases' (fun h0 => ?_) (fun h0 => ?_)
  · simp_arith [m0, m1]
    exact q _ _ (Int.fmod_nonneg_of_pos a hm) (Int.fmod_lt_of_pos a hm) ⟨_, _, _, rfl, Int.fdiv_nonneg ha (by omega), hb, hb2, hj, by omega⟩
  · have e1 : decide ((b + 39373 * (j + 1)).natAbs < 18446744073709551616) = true := decide_eq_true (by omega)
    have e2 : s64 (39373 : Int) = true := by decide
    have e3 : s64 (7919 : Int) = true := by decide
    have e4 : s64 (Int.fmod ((b + 39373 * (j + 1)) ^ 5) 2147483647) = true := by
      have h1 := Int.fmod_nonneg_of_pos ((b + 39373 * (j + 1)) ^ 5) (b := 2147483647) (by decide)
      have h2 := Int.fmod_lt_of_pos ((b + 39373 * (j + 1)) ^ 5) (b := 2147483647) (by decide)
      exact s64_small (by omega) (by omega)
    simp_arith [m0, m1, e1, e2, e3, e4, Bool.or_true, Bool.true_or]
    exact q _ _ (Int.fmod_nonneg_of_pos _ hm) (Int.fmod_lt_of_pos _ hm) ⟨_, _, _, rfl, ha, hb, hb2, by omega, by omega⟩
end L_k75
namespace L_k75
open PySem PySem.Spec PyProof.Rows L2 PD
local macro_rules | `(tactic| simp_arith [$xs,*]) => `(tactic| try simp only [↓W_eDispT, ↓W_eLkT, ↓WV_nSetS, ↓WV_nRet, ↓WVT_nNin, ↓WV_nAhPut, ↓WV_nPut, ↓WV_nAug, ↓WV_nSetd, ↓WV_nBes, ↓WO_cW, ↓WV_nCallW, ↓WV_nSetW, ↓W_eMethN, ↓W_eMethS, ↓W_eNW, ↓W_eNB, ↓WV_nNil, ↓WV_nSeq, ↓WV_nIf, ↓WVT_nTst, ↓WVT_nAndT, ↓WV_nLift, ↓WV_nFrz, ↓WV_nFor, ↓W_ckB, ↓W_eCallR, ↓W_eCallB, ↓W_eFT, ↓W_eFS, ↓W_eP1, ↓W_sExpB, ↓W_sRetB, ↓W_sSetB, ↓W_sRetZ, ↓W_sKeep, ↓W_sSea, ↓W_sPop, ↓W_eOpB, ↓W_mNew, ↓W_sNewB, ↓W_sNewP, ↓WO_runR, ↓WO_runB, ↓W_eDisp, ↓W_qN, ↓W_qA, ↓W_qJs, ↓W_qJi, ↓W_rt, ↓W_bd, ↓W_eC, ↓W_eV, ↓W_cN, ↓W_cA, ↓W_eP, ↓W_eM, ↓W_eMf, ↓W_ckF, ↓W_ckT, ↓W_eU, ↓W_eUC, ↓W_eTup, ↓W_eLst, ↓W_eDk, ↓W_eDt, ↓W_mB, ↓W_mT, ↓W_mNot, ↓W_mAnd, ↓W_mOr, ↓W_eNot, ↓W_eAnd, ↓W_eOr, ↓W_eIf, ↓W_eTmp, ↓W_eTmpA, ↓W_cNn, ↓W_cAn, ↓W_eTmpL, ↓W_mTmp, ↓W_oN, ↓W_oS, ↓W_eSl, ↓W_eChain, ↓W_sNil, ↓W_sPass, ↓W_sBrk, ↓W_sCnt, ↓W_sRetN, ↓W_sSeq, ↓W_sExp, ↓W_sRet, ↓W_sIf, ↓W_sAsg, ↓W_gsN, ↓W_gsC, ↓W_gT, ↓W_gTl, ↓W_gS, ↓W_sRaise0, ↓W_sRaise1, ↓W_sTryK, ↓W_sCallX, ↓W_hb_im, ↓W_hb_fr, ↓W_hb_bo, ↓W_sPF, ↓W_sPF3, ↓W_sPF4, ↓W_gN_im, ↓W_gN_fr, ↓W_gN_bo, ↓W_frz_im, ↓W_frz_fr, ↓W_frz_bo, ↓W_frzs_nil, ↓W_frzs_cons, ↓W_frzA_nil, ↓W_frzA_t, ↓W_frzA_im, ↓W_frzA_bo, ↓W_callE, ↓W_eCallN, ↓W_eCallF, ↓WO_runF, ↓W_mR1, ↓W_mR2, ↓W_mR3, ↓W_eRev, ↓W_eRev2, ↓W_eRev7, ↓W_eFrz, ↓W_eGetZ, ↓W_eKf, ↓W_eLk, ↓W_mLst, ↓W_mLz, ↓W_mTup, ↓W_mEnum, ↓W_mEnumT, ↓W_mStr, ↓W_mDk, ↓W_mZip, ↓W_sFor, ↓W_sWhl, ↓W_eComp, ↓W_eTupB, ↓W_sAug, ↓W_sAugS, ↓W_eTmpD, ↓W_eTmpU, ↓W_sLkS, ↓W_mDi, ↓W_mZipM, ↓Rw_to4, ↓Rw_from4, ↓W_gT_Fld, ↓W_gT_Gt, ↓W_gT_Lt, ↓W_gT_bD, ↓W_gT_Dn, ↓W_gT_Rw, ↓Fld_i0, ↓Fld_i1, ↓Fld_i2, ↓Fld_i3, ↓Fld_i4, ↓Gt_i0, ↓Gt_i1, ↓Gt_i2, ↓Gt_i3, ↓Lt_i0, ↓Lt_i1, ↓Lt_i2, ↓bD_i0, ↓bD_i1, ↓Dn_i0, ↓Dn_i1, ↓Dn_i2, ↓Dn_i3, ↓Rw_i0, ↓Rw_i1, ↓Rw_i2, ↓Rw_i3, ↓Rw_i4, ↓Rw_i5, ↓Rw_i6, ↓Ter_i0, ↓Ter_i1, imsV_nil, imsV_cons, okSl_im, okSl_em, okSl_ow, nd1_im, kd1_im, int1_im, kv1_im, isNs_nt, noBo, nxV_nx, isEm_em, isNt_nt, thE_nil, thE_cons, isIm_im, isIm_em, isIm_ow, slNm_em, slNm_im, slNm_ow, nm_nd, nodeD_nd, keyW_nd, bkO, bkNO, setBk_nil, setBk_cons, setBk_em, setBk_im, setBk_ow, setBk_io, setBk_bk, insB0, insB1, insB2, insB3, isBk_bk, BkS.nm, Vl.nmB, FnN_sig, Fk_sem, Fk_sig, exV_im, exV_ex, exOf_ex, exOf_nx, tyF, frK_fr, nxK_nx, lstLF, atomV, WO_map, WO_some, WO_none, WB_true, WB_false, WC_true, goes_nx, goes_ct, goes_bk, goes_rt, cut_nx, cut_bk, cut_ct, cut_rt, List.eraseIdx_cons_zero, List.eraseIdx_cons_succ, puts_nil, puts_cons, List.getElem?_cons_zero, List.getElem?_cons_succ, setO, frzO_eq, Option.map_some, putO, putC, List.set_cons_zero, List.set_cons_succ, mutAtD, only, dropM, mutL, PD.cnts, PD.cnt, Vl.hold, tyT, beq_self_eq_true, small_eq, lessL_eq, decide_true, decide_false, List.length_cons, List.length_nil, mkE, List.replicate_succ, List.replicate_zero, List.cons_append, List.nil_append, outE, retV, ioAll, ioIx, brIx, mutAt, updE, disj, nmOut, Vl.nm, D.nm, D.nmC, nms, Sl.mut, Sl.frz, D.atom, List.map_cons, List.map_nil, wipeE, unwipe, calm_em, calm_im, calm_none, List.all_cons, List.all_nil, Bool.and_true, Bool.true_and, Bool.and_self, Bool.or_true, Bool.or_self, Bool.true_or, Bool.false_or, Bool.or_false, Bool.not_true, Bool.not_false, Bool.and_false, Bool.false_and, List.isEmpty_nil, List.isEmpty_cons, List.nodup_cons, List.nodup_nil, List.not_mem_nil, not_false_eq_true, and_self, List.contains_nil, if_true, if_false, Bool.false_eq_true, ite_true, ite_false, rg1, rg2, rg3_10, revLD, rev2D, rev7D, addND, subND, seqL, seqZ, seqT, zipO, addD, subD, mulD, mulTD, divD, modD, powD, negD, ltD, leD, gtD, geD, lenD, absD, minD, maxD, PD.intD, ixD, isnD, appendD, reverseD, extendD, slD, setD, listD, tupleD, tupleBD, truD, at0, at1, at2, at3, at4, at5, at6, at7, sd0, sd1, sd2, sd3, ixN, Int.cast_ofNat_Int, Int.reduceEq, Int.reduceNe, Int.reduceLT, Int.reduceLE, Int.reduceNeg, Int.reduceAdd, Int.reduceSub, Int.reduceMul, Int.reducePow, Nat.reducePow, Int.reduceToNat, Int.reduceAbs, ne_eq, not_true_eq_false, Nat.zero_add, Nat.add_zero, Nat.reduceAdd, Nat.reduceSub, Nat.reduceLT, Nat.reduceLeDiff, Nat.reduceEqDiff, Nat.reduceMul, i63_0, i63_1, zipMO_lt, zipMO_tl, zipMO_ll, List.flatten_cons, List.flatten_nil, Nat.lt_irrefl, reduceCtorEq, Nat.zero_lt_succ, Nat.reduceSubDiff, Nat.sub_zero, Nat.sub_self, Bool.not_eq_true, Bool.not_eq_false, b__law_box, b__law_take, ce__law_words_1, cp__law_words_1, ce__law_words_2, cp__law_words_2, ce__law_words_3, cp__law_words_3, fl__law_words_4, b__law_words, fl__law_text_1, b__law_text, fl__law_row_1, ce__law_row_2, cp__law_row_2, b__law_row, fl__law_loose_1, b__law_loose, ce__law_same_1, cp__law_same_1, b__law_same, ce_number_in_1, cp_number_in_1, b_number_in, ce_is_name_1, cp_is_name_1, b_is_name, ce_names_in_1, cp_names_in_1, b_names_in, ce_are_rising_1, cp_are_rising_1, b_are_rising, b_thing_in, b_may_be, ce_read_row_1, cp_read_row_1, ce_read_row_2, cp_read_row_2, b_read_row, fl_law_1, fl_law_2, fl_law_3, b_law, sig__law_box, sig__law_take, sig__law_words, sig__law_text, sig__law_row, sig__law_loose, sig_number_in, sig_is_name, sig_names_in, sig_are_rising, sig_thing_in, sig_may_be, sig_read_row, sig_law, ↓W_mZipC, $xs,*])
local macro_rules | `(tactic| simp_arith) => `(tactic| simp_arith [W_cN])
/-! numbers written and read -/
def FG : Str := Str.ofString "0123456789"
def figB (n : Nat) : Bool := decide (PySem.intText? (strI (n : Int)) = some (n : Int)) && (strI (n : Int)).cps.toList.all (fun c => decide (c ∈ FG.cps.toList)) && decide (1 ≤ (strI (n : Int)).length) && decide ((strI (n : Int)).length = if n < 10 then 1 else if n < 100 then 2 else 3) && PyData.strOk (strI (n : Int)) && (decide (n = 0) || !decide ((strI (n : Int)).cps.toList.head? = some 48))
theorem fig_all : (List.range 1000).all figB = true := by decide +kernel
theorem fig_at {n : Nat} (h : n < 1000) : figB n = true := List.all_eq_true.mp fig_all n (List.mem_range.mpr h)
structure Fig (n : Nat) : Prop where
  it : PySem.intText? (strI (n : Int)) = some (n : Int)
  fg : ∀ c ∈ (strI (n : Int)).cps.toList, c ∈ FG.cps.toList
  l1 : 1 ≤ (strI (n : Int)).length
  ln : (strI (n : Int)).length = if n < 10 then 1 else if n < 100 then 2 else 3
  ok : PyData.strOk (strI (n : Int)) = true
  hd : n ≠ 0 → (strI (n : Int)).cps.toList.head? ≠ some 48
theorem fig_of {n : Nat} (h : n < 1000) : Fig n := by
  have h := fig_at h
  unfold figB at h
  simp only [Bool.and_eq_true, decide_eq_true_eq, List.all_eq_true, Bool.or_eq_true, Bool.not_eq_true', decide_eq_false_iff_not] at h
  obtain ⟨⟨⟨⟨⟨h1, h2⟩, h3⟩, h4⟩, h5⟩, h6⟩ := h
  exact ⟨h1, h2, h3, h4, h5, fun hn => h6.resolve_left hn⟩
theorem fig_le {n m : Nat} (h : n ≤ m) (hm : m < 1000) : (strI (n : Int)).length ≤ (strI (m : Int)).length := by
  rw [(fig_of (show n < 1000 by omega)).ln, (fig_of hm).ln]
  split <;> split <;> (try split) <;> (try split) <;> omega
theorem all_tr {α : Type} (l : List α) : allD [.lst (l.map fun _ => .bl true)] = some (.im (.bl true)) := by
  have h : blsD (l.map fun _ => D.bl true) = some (l.map fun _ => true) := by
    induction l with
    | nil => rfl
    | cons a r ih =>
      show (blsD (r.map fun _ => D.bl true)).map (true :: ·) = _
      rw [ih]
      rfl
  have h2 : ((l.map fun _ => true).all id) = true := by simp
  simp only [allD, h, Option.map_some, h2]
theorem numin_wp {n lo hi : Nat} {K : Vl × List D → Prop} (h0 : lo ≤ n) (h1 : n ≤ hi) (h2 : hi < 1000) (q : K (.im (.int (n : Int)), [.str (strI (n : Int)), .int (lo : Int), .int (hi : Int)])) : @WO _ (F_number_in.sem [.str (strI (n : Int)), .int (lo : Int), .int (hi : Int)]) ⟨K⟩ := by
  have fn := fig_of (n := n) (by omega)
  have fh := fig_of h2
  have hle := fig_le h1 h2
  have l3 : (strI (n : Int)).length ≤ 3 := by rw [fn.ln]; split <;> (try split) <;> omega
  have l3h : (strI (hi : Int)).length ≤ 3 := by rw [fh.ln]; split <;> (try split) <;> omega
  have s1 : small (strI (n : Int)).length = true := small_lit (by omega)
  have s2 : small (strI (hi : Int)).length = true := small_lit (by omega)
  have g1 : (1 : Int) ≤ ((strI (n : Int)).length : Int) := by have := fn.l1; omega
  have g2 : ((strI (n : Int)).length : Int) ≤ ((strI (hi : Int)).length : Int) := by omega
  have hsn : strND [.int (hi : Int)] = some (.im (.str (strI (hi : Int)))) := by
    unfold strND
    exact if_pos ⟨by have : (hi : Int).natAbs = hi := rfl; rw [this]; exact Nat.lt_of_lt_of_le h2 (by decide), fh.ok⟩
  have his : intSD [.str (strI (n : Int))] = some (.im (.int (n : Int))) := by
    unfold intSD
    dsimp only
    rw [fn.it]
    exact if_pos (by omega)
  rw [sem_number_in]
  simp_arith [s1, s2, hsn]
  refine WO_ifd (by omega) ?_
  simp_arith [g1, s1, s2, hsn]
  refine WO_ifd (by omega) ?_
  simp_arith [g2]
  have hc : chD (strI (n : Int)) = (strI (n : Int)).cps.toList.map fun c => D.str ⟨#[c]⟩ := rfl
  rw [hc]
  refine W_comp_mapA (fun c => D.str ⟨#[c]⟩) (fun _ => .bl true) (fun c hc => ?_) ?_
  · have h4 : inD [.str ⟨#[c]⟩, .str (Str.ofString "0123456789")] = some (.im (.bl true)) := by
      show some (Vl.im (.bl (Txt.contains (Str.ofString "0123456789") ⟨#[c]⟩))) = _
      rw [contains_sign]
      have : decide (c ∈ (Str.ofString "0123456789").cps.toList) = true := decide_eq_true (fn.fg c hc)
      rw [this]
    simp_arith [↓h4]
  have hl : (strI (n : Int)).cps.toList.length ≤ 3 := by
    have : (strI (n : Int)).cps.size ≤ 3 := l3
    simpa using this
  simp_arith [List.length_map]
  refine WC_dec (by omega) ?_
  obtain ⟨c, r, hcr⟩ : ∃ c r, (strI (n : Int)).cps.toList = c :: r := by
    cases h : (strI (n : Int)).cps.toList with
    | nil =>
      have h3 := fn.l1
      have : (strI (n : Int)).cps.toList.length = (strI (n : Int)).length := by simp [Str.length]
      rw [h] at this
      simp at this
      omega
    | cons c r => exact ⟨c, r, rfl⟩
  have hat : L2.atI (strI (n : Int)).cps.toList 0 = some c := by
    rw [hcr]
    simp only [at0]
  have hix : ixD [.str (strI (n : Int)), .int 0] = some (.im (.str ⟨#[c]⟩)) := by
    show (if small (strI (n : Int)).length = true then (L2.atI (strI (n : Int)).cps.toList 0).map (fun c => Vl.im (.str ⟨#[c]⟩)) else none) = _
    rw [if_pos s1, hat]
    rfl
  have k1 : decide ((lo : Int) ≤ (n : Int)) = true := decide_eq_true (by omega)
  have k2 : decide ((n : Int) ≤ (hi : Int)) = true := decide_eq_true (by omega)
  by_cases hn : n = 0
  · subst hn
    have hz : strI ((0 : Nat) : Int) = Str.ofString "0" := by decide +kernel
    have hc0 : c = 48 := by
      rw [hz] at hcr
      have : (Str.ofString "0").cps.toList = [48] := by decide +kernel
      rw [this] at hcr
      exact (List.cons.inj hcr).1.symm
    have hs : (⟨#[c]⟩ : Str) = Str.ofString "0" := by rw [hc0]; decide +kernel
    have d1 : neD [.str (strI ((0 : Nat) : Int)), .str (Str.ofString "0")] = some (.im (.bl false)) := by
      rw [neD_str, hz]
      exact congrArg (fun b => some (Vl.im (.bl b))) (by simp)
    have d2 : eqD [.str ⟨#[c]⟩, .str (Str.ofString "0")] = some (.im (.bl true)) := by
      rw [eqD_str]
      exact congrArg (fun b => some (Vl.im (.bl b))) (decide_eq_true hs)
    have hix0 : ixD [.str (strI 0), .int 0] = some (.im (.str ⟨#[c]⟩)) := hix
    have d10 : neD [.str (strI 0), .str (Str.ofString "0")] = some (.im (.bl false)) := d1
    have his0 : intSD [.str (strI 0)] = some (.im (.int 0)) := his
    have k10 : decide ((lo : Int) ≤ 0) = true := k1
    have k20 : decide ((0 : Int) ≤ (hi : Int)) = true := k2
    simp_arith [all_tr, ↓hix0, ↓d10, ↓d2, ↓his0, k10, k20]
    exact q
  · have hs : (⟨#[c]⟩ : Str) ≠ Str.ofString "0" := fun h => by
      have h1 := fn.hd hn
      rw [hcr] at h1
      refine h1 ?_
      have : (⟨#[c]⟩ : Str).cps.toList = (Str.ofString "0").cps.toList := by rw [h]
      have h2 : (Str.ofString "0").cps.toList = [48] := by decide +kernel
      rw [h2] at this
      have this : [c] = [48] := this
      rw [List.head?_cons, (List.cons.inj this).1]
    have d2 : eqD [.str ⟨#[c]⟩, .str (Str.ofString "0")] = some (.im (.bl false)) := by
      rw [eqD_str]
      exact congrArg (fun b => some (Vl.im (.bl b))) (decide_eq_false hs)
    simp_arith [all_tr, ↓hix, ↓d2, ↓his, k1, k2]
    exact q
end L_k75
namespace L_k75
open PySem PySem.Spec PyProof.Rows L2 PD
local macro_rules | `(tactic| simp_arith [$xs,*]) => `(tactic| try simp only [↓W_eDispT, ↓W_eLkT, ↓WV_nSetS, ↓WV_nRet, ↓WVT_nNin, ↓WV_nAhPut, ↓WV_nPut, ↓WV_nAug, ↓WV_nSetd, ↓WV_nBes, ↓WO_cW, ↓WV_nCallW, ↓WV_nSetW, ↓W_eMethN, ↓W_eMethS, ↓W_eNW, ↓W_eNB, ↓WV_nNil, ↓WV_nSeq, ↓WV_nIf, ↓WVT_nTst, ↓WVT_nAndT, ↓WV_nLift, ↓WV_nFrz, ↓WV_nFor, ↓W_ckB, ↓W_eCallR, ↓W_eCallB, ↓W_eFT, ↓W_eFS, ↓W_eP1, ↓W_sExpB, ↓W_sRetB, ↓W_sSetB, ↓W_sRetZ, ↓W_sKeep, ↓W_sSea, ↓W_sPop, ↓W_eOpB, ↓W_mNew, ↓W_sNewB, ↓W_sNewP, ↓WO_runR, ↓WO_runB, ↓W_eDisp, ↓W_qN, ↓W_qA, ↓W_qJs, ↓W_qJi, ↓W_rt, ↓W_bd, ↓W_eC, ↓W_eV, ↓W_cN, ↓W_cA, ↓W_eP, ↓W_eM, ↓W_eMf, ↓W_ckF, ↓W_ckT, ↓W_eU, ↓W_eUC, ↓W_eTup, ↓W_eLst, ↓W_eDk, ↓W_eDt, ↓W_mB, ↓W_mT, ↓W_mNot, ↓W_mAnd, ↓W_mOr, ↓W_eNot, ↓W_eAnd, ↓W_eOr, ↓W_eIf, ↓W_eTmp, ↓W_eTmpA, ↓W_cNn, ↓W_cAn, ↓W_eTmpL, ↓W_mTmp, ↓W_oN, ↓W_oS, ↓W_eSl, ↓W_eChain, ↓W_sNil, ↓W_sPass, ↓W_sBrk, ↓W_sCnt, ↓W_sRetN, ↓W_sSeq, ↓W_sExp, ↓W_sRet, ↓W_sIf, ↓W_sAsg, ↓W_gsN, ↓W_gsC, ↓W_gT, ↓W_gTl, ↓W_gS, ↓W_sRaise0, ↓W_sRaise1, ↓W_sTryK, ↓W_sCallX, ↓W_hb_im, ↓W_hb_fr, ↓W_hb_bo, ↓W_sPF, ↓W_sPF3, ↓W_sPF4, ↓W_gN_im, ↓W_gN_fr, ↓W_gN_bo, ↓W_frz_im, ↓W_frz_fr, ↓W_frz_bo, ↓W_frzs_nil, ↓W_frzs_cons, ↓W_frzA_nil, ↓W_frzA_t, ↓W_frzA_im, ↓W_frzA_bo, ↓W_callE, ↓W_eCallN, ↓W_eCallF, ↓WO_runF, ↓W_mR1, ↓W_mR2, ↓W_mR3, ↓W_eRev, ↓W_eRev2, ↓W_eRev7, ↓W_eFrz, ↓W_eGetZ, ↓W_eKf, ↓W_eLk, ↓W_mLst, ↓W_mLz, ↓W_mTup, ↓W_mEnum, ↓W_mEnumT, ↓W_mStr, ↓W_mDk, ↓W_mZip, ↓W_sFor, ↓W_sWhl, ↓W_eComp, ↓W_eTupB, ↓W_sAug, ↓W_sAugS, ↓W_eTmpD, ↓W_eTmpU, ↓W_sLkS, ↓W_mDi, ↓W_mZipM, ↓Rw_to4, ↓Rw_from4, ↓W_gT_Fld, ↓W_gT_Gt, ↓W_gT_Lt, ↓W_gT_bD, ↓W_gT_Dn, ↓W_gT_Rw, ↓Fld_i0, ↓Fld_i1, ↓Fld_i2, ↓Fld_i3, ↓Fld_i4, ↓Gt_i0, ↓Gt_i1, ↓Gt_i2, ↓Gt_i3, ↓Lt_i0, ↓Lt_i1, ↓Lt_i2, ↓bD_i0, ↓bD_i1, ↓Dn_i0, ↓Dn_i1, ↓Dn_i2, ↓Dn_i3, ↓Rw_i0, ↓Rw_i1, ↓Rw_i2, ↓Rw_i3, ↓Rw_i4, ↓Rw_i5, ↓Rw_i6, ↓Ter_i0, ↓Ter_i1, imsV_nil, imsV_cons, okSl_im, okSl_em, okSl_ow, nd1_im, kd1_im, int1_im, kv1_im, isNs_nt, noBo, nxV_nx, isEm_em, isNt_nt, thE_nil, thE_cons, isIm_im, isIm_em, isIm_ow, slNm_em, slNm_im, slNm_ow, nm_nd, nodeD_nd, keyW_nd, bkO, bkNO, setBk_nil, setBk_cons, setBk_em, setBk_im, setBk_ow, setBk_io, setBk_bk, insB0, insB1, insB2, insB3, isBk_bk, BkS.nm, Vl.nmB, FnN_sig, Fk_sem, Fk_sig, exV_im, exV_ex, exOf_ex, exOf_nx, tyF, frK_fr, nxK_nx, lstLF, atomV, WO_map, WO_some, WO_none, WB_true, WB_false, WC_true, goes_nx, goes_ct, goes_bk, goes_rt, cut_nx, cut_bk, cut_ct, cut_rt, List.eraseIdx_cons_zero, List.eraseIdx_cons_succ, puts_nil, puts_cons, List.getElem?_cons_zero, List.getElem?_cons_succ, setO, frzO_eq, Option.map_some, putO, putC, List.set_cons_zero, List.set_cons_succ, mutAtD, only, dropM, mutL, PD.cnts, PD.cnt, Vl.hold, tyT, beq_self_eq_true, small_eq, lessL_eq, decide_true, decide_false, List.length_cons, List.length_nil, mkE, List.replicate_succ, List.replicate_zero, List.cons_append, List.nil_append, outE, retV, ioAll, ioIx, brIx, mutAt, updE, disj, nmOut, Vl.nm, D.nm, D.nmC, nms, Sl.mut, Sl.frz, D.atom, List.map_cons, List.map_nil, wipeE, unwipe, calm_em, calm_im, calm_none, List.all_cons, List.all_nil, Bool.and_true, Bool.true_and, Bool.and_self, Bool.or_true, Bool.or_self, Bool.true_or, Bool.false_or, Bool.or_false, Bool.not_true, Bool.not_false, Bool.and_false, Bool.false_and, List.isEmpty_nil, List.isEmpty_cons, List.nodup_cons, List.nodup_nil, List.not_mem_nil, not_false_eq_true, and_self, List.contains_nil, if_true, if_false, Bool.false_eq_true, ite_true, ite_false, rg1, rg2, rg3_10, revLD, rev2D, rev7D, addND, subND, seqL, seqZ, seqT, zipO, addD, subD, mulD, mulTD, divD, modD, powD, negD, ltD, leD, gtD, geD, lenD, absD, minD, maxD, PD.intD, ixD, isnD, appendD, reverseD, extendD, slD, setD, listD, tupleD, tupleBD, truD, at0, at1, at2, at3, at4, at5, at6, at7, sd0, sd1, sd2, sd3, ixN, Int.cast_ofNat_Int, Int.reduceEq, Int.reduceNe, Int.reduceLT, Int.reduceLE, Int.reduceNeg, Int.reduceAdd, Int.reduceSub, Int.reduceMul, Int.reducePow, Nat.reducePow, Int.reduceToNat, Int.reduceAbs, ne_eq, not_true_eq_false, Nat.zero_add, Nat.add_zero, Nat.reduceAdd, Nat.reduceSub, Nat.reduceLT, Nat.reduceLeDiff, Nat.reduceEqDiff, Nat.reduceMul, i63_0, i63_1, zipMO_lt, zipMO_tl, zipMO_ll, List.flatten_cons, List.flatten_nil, Nat.lt_irrefl, reduceCtorEq, Nat.zero_lt_succ, Nat.reduceSubDiff, Nat.sub_zero, Nat.sub_self, Bool.not_eq_true, Bool.not_eq_false, $xs,*])
local macro_rules | `(tactic| simp_arith) => `(tactic| simp_arith [W_cN])
/-! words of a text, between blanks -/
abbrev Sp : Str := Str.ofString " "
abbrev Cm : Str := Str.ofString ","
theorem tl_sp : TL.tl Sp = [32] := by decide +kernel
theorem tl_cm : TL.tl Cm = [44] := by decide +kernel
theorem spl_mem (S : List Nat) : ∀ (cs : List Nat) (k : Nat) (acc : List Nat), ∀ p ∈ TL.spl S k acc cs, ∀ c ∈ p, c ∈ acc ∨ c ∈ cs
  | [], k, acc, p, hp, c, hc => by
    have e : TL.spl S k acc [] = [acc] := by cases k <;> rfl
    rw [e, List.mem_singleton] at hp
    exact .inl (hp ▸ hc)
  | x :: r, 0, acc, p, hp, c, hc => by
    have e : TL.spl S 0 acc (x :: r) = if TL.pre S (x :: r) = true then acc :: TL.spl S (S.length - 1) [] r else TL.spl S 0 (acc ++ [x]) r := rfl
    rw [e] at hp
    split at hp
    · rcases List.mem_cons.mp hp with rfl | hp
      · exact .inl hc
      · rcases spl_mem S r _ _ p hp c hc with h | h
        · cases h
        · exact .inr (List.mem_cons_of_mem _ h)
    · rcases spl_mem S r _ _ p hp c hc with h | h
      · rcases List.mem_append.mp h with h | h
        · exact .inl h
        · rw [List.mem_singleton.mp h]
          exact .inr (List.mem_cons_self ..)
      · exact .inr (List.mem_cons_of_mem _ h)
  | x :: r, k + 1, acc, p, hp, c, hc => by
    have e : TL.spl S (k + 1) acc (x :: r) = TL.spl S k acc r := rfl
    rw [e] at hp
    rcases spl_mem S r _ _ p hp c hc with h | h
    · exact .inl h
    · exact .inr (List.mem_cons_of_mem _ h)
theorem spl_len (S : List Nat) : ∀ (cs : List Nat) (k : Nat) (acc : List Nat), (TL.spl S k acc cs).length ≤ cs.length + 1 ∧ ∀ p ∈ TL.spl S k acc cs, p.length ≤ acc.length + cs.length
  | [], k, acc => by
    have e : TL.spl S k acc [] = [acc] := by cases k <;> rfl
    rw [e]
    exact ⟨by simp, fun p hp => by rw [List.mem_singleton.mp hp]; simp⟩
  | x :: r, 0, acc => by
    have e : TL.spl S 0 acc (x :: r) = if TL.pre S (x :: r) = true then acc :: TL.spl S (S.length - 1) [] r else TL.spl S 0 (acc ++ [x]) r := rfl
    rw [e]
    split
    · obtain ⟨h1, h2⟩ := spl_len S r (S.length - 1) []
      refine ⟨by simp; omega, fun p hp => ?_⟩
      rcases List.mem_cons.mp hp with rfl | hp
      · omega
      · have := h2 p hp
        simp at this ⊢
        omega
    · obtain ⟨h1, h2⟩ := spl_len S r 0 (acc ++ [x])
      refine ⟨by simp; omega, fun p hp => ?_⟩
      have := h2 p hp
      simp at this ⊢
      omega
  | x :: r, k + 1, acc => by
    have e : TL.spl S (k + 1) acc (x :: r) = TL.spl S k acc r := rfl
    rw [e]
    obtain ⟨h1, h2⟩ := spl_len S r k acc
    exact ⟨by simp; omega, fun p hp => by have := h2 p hp; simp; omega⟩
/-- a text split at a sign below 256 -/
theorem split_tl {x y : Str} {s : Nat} (hy : TL.tl y = [s]) (hk : y.cps.all (· < 256) = true) : (Txt.split x y).map TL.tl = TL.spl [s] 0 [] (TL.tl x) := by
  rw [TL.split_spl x y (by rw [hy]; simp) (TL.kind_ok hk), hy]
theorem split_as {x y : Str} {s n : Nat} (hy : TL.tl y = [s]) (hk : y.cps.all (· < 256) = true) (h : As n x) : ∀ p ∈ Txt.split x y, As n p := fun p hp => by
  have hm : TL.tl p ∈ TL.spl [s] 0 [] (TL.tl x) := by
    rw [← split_tl hy hk]
    exact List.mem_map_of_mem hp
  refine ⟨?_, fun c hc => ?_⟩
  · have h1 := (spl_len [s] (TL.tl x) 0 []).2 _ hm
    have h2 : (TL.tl p).length = p.length := by simp [TL.tl, Str.length]
    have h3 : (TL.tl x).length = x.length := by simp [TL.tl, Str.length]
    rw [h2, h3] at h1
    have := h.1
    simp at h1
    omega
  · rcases spl_mem [s] _ _ _ _ hm c hc with h1 | h1
    · cases h1
    · exact h.2 c h1
theorem split_num {x y : Str} {s n : Nat} (hy : TL.tl y = [s]) (hk : y.cps.all (· < 256) = true) (h : x.length ≤ n) : (Txt.split x y).length ≤ n + 1 := by
  have h1 := (spl_len [s] (TL.tl x) 0 []).1
  rw [← split_tl hy hk, List.length_map] at h1
  have h3 : (TL.tl x).length = x.length := by simp [TL.tl, Str.length]
  omega
theorem split_sem {x y : Str} {s n : Nat} (hy : TL.tl y = [s]) (hk : y.cps.all (· < 256) = true) (h : As n x) (hn : n ≤ 100000) : splitD [.str x, .str y] = some (.fr (.lst ((Txt.split x y).map D.str))) := by
  have h1 : (y.length == 0) = false := by
    have : (TL.tl y).length = y.length := by simp [TL.tl, Str.length]
    rw [hy] at this
    rw [← this]
    rfl
  have h2 : decide (x.length + 2 ≤ sizeLine) = true := decide_eq_true (by
    have h9 : sizeLine = 16777216 := rfl
    have := h.1
    omega)
  have h3 : (Txt.split x y).all PyData.strOk = true := List.all_eq_true.mpr fun p hp => (split_as hy hk h p hp).ok
  show (if (!(y.length == 0) && decide (x.length + 2 ≤ sizeLine) && (Txt.split x y).all PyData.strOk) = true then _ else none) = _
  rw [h1, h2, h3]
  rfl
/-! the words alone -/
def wdL (cs : List Nat) : List (List Nat) := (TL.spl [32] 0 [] cs).filter fun p => !p.isEmpty
theorem wdL_nil : wdL [] = [] := rfl
theorem wdL_sp (cs : List Nat) : wdL (32 :: cs) = wdL cs := by
  have h := TL.spl_part1 (s := 32) (S := []) (p := []) (rest := cs) (acc := []) (by simp)
  have h : TL.spl [32] 0 [] (32 :: cs) = [] :: TL.spl [32] 0 [] cs := h
  unfold wdL
  rw [h]
  rfl
theorem wdL_sps (k : Nat) (cs : List Nat) : wdL (List.replicate k 32 ++ cs) = wdL cs := by
  induction k with
  | zero => rfl
  | succ k ih => rw [List.replicate_succ, List.cons_append, wdL_sp, ih]
theorem wdL_word {w cs : List Nat} (hw : w ≠ []) (h : 32 ∉ w) : wdL (w ++ 32 :: cs) = w :: wdL cs := by
  have h1 := TL.spl_part1 (s := 32) (S := []) (p := w) (rest := cs) (acc := []) h
  have h1 : TL.spl [32] 0 [] (w ++ 32 :: cs) = w :: TL.spl [32] 0 [] cs := h1
  unfold wdL
  rw [h1, List.filter_cons_of_pos (by cases w with | nil => exact absurd rfl hw | cons _ _ => rfl)]
theorem wdL_end {w : List Nat} (hw : w ≠ []) (h : 32 ∉ w) : wdL w = [w] := by
  have h1 := TL.spl_last1 (s := 32) (S := []) (p := w) (acc := []) h
  have h1 : TL.spl [32] 0 [] w = [w] := h1
  unfold wdL
  rw [h1, List.filter_cons_of_pos (by cases w with | nil => exact absurd rfl hw | cons _ _ => rfl)]
  rfl
def wsp (x : Str) : List Str := (Txt.split x Sp).filter fun y => !decide (y = Str.ofString "")
theorem tl_empty {y : Str} : (TL.tl y).isEmpty = decide (y = Str.ofString "") := by
  by_cases h : y = Str.ofString ""
  · subst h
    decide +kernel
  · rw [decide_eq_false h]
    cases e : TL.tl y with
    | nil =>
      refine absurd (TL.ext_tl ?_) h
      rw [e]
      decide +kernel
    | cons _ _ => rfl
theorem wsp_tl (x : Str) : (wsp x).map TL.tl = wdL (TL.tl x) := by
  have e : ∀ l : List Str, (l.filter fun y => !decide (y = Str.ofString "")).map TL.tl = (l.map TL.tl).filter fun p => !p.isEmpty := fun l => by
    induction l with
    | nil => rfl
    | cons a r ih =>
      rw [List.map_cons, List.filter_cons, List.filter_cons, tl_empty]
      split
      · rw [List.map_cons, ih]
      · exact ih
  unfold wsp wdL
  rw [e, split_tl tl_sp (by decide +kernel)]
/-- a word: signs below 128, no blank among them -/
structure Wd (n : Nat) (x : Str) : Prop where
  as : As n x
  l0 : 1 ≤ x.length
  nb : 32 ∉ TL.tl x
theorem Wd.ne {n : Nat} {x : Str} (h : Wd n x) : TL.tl x ≠ [] := fun e => by
  have h1 := h.l0
  have : (TL.tl x).length = x.length := by simp [TL.tl, Str.length]
  rw [e] at this
  simp at this
  omega
theorem Wd.mono {n m : Nat} {x : Str} (h : Wd n x) (hn : n ≤ m) : Wd m x := ⟨h.as.mono hn, h.l0, h.nb⟩
theorem Wd.nm {x : Str} (h : NmL x) : Wd 6 x := ⟨h.as, h.l0, fun hc => by
  have h1 := h.lt 32 hc
  have h2 : (32 : Nat) ∉ PD.LT := by decide +kernel
  exact h2 h1⟩
theorem wsp_join {n : Nat} {ws : List Str} (hne : ws ≠ []) (h : ∀ w ∈ ws, Wd n w) : wsp (Txt.join Sp ws) = ws := by
  unfold wsp
  rw [TL.split_join tl_sp (by decide +kernel) hne fun p hp => (h p hp).nb]
  refine List.filter_eq_self.mpr fun w hw => ?_
  have h1 := (h w hw).l0
  rw [decide_eq_false (fun e => by rw [e] at h1; revert h1; decide +kernel)]
  rfl
theorem split_joined {n : Nat} {ws : List Str} (hne : ws ≠ []) (h : ∀ w ∈ ws, Wd n w) : Txt.split (Txt.join Sp ws) Sp = ws := TL.split_join tl_sp (by decide +kernel) hne fun p hp => (h p hp).nb
theorem wsp_of {x : Str} {ws : List Str} (h : wdL (TL.tl x) = ws.map TL.tl) : wsp x = ws := TL.map_tl_inj ((wsp_tl x).trans h)
theorem tl_times (k : Nat) : TL.tl (timesS Sp k) = List.replicate k 32 := by
  have e : TL.tl (timesS Sp k) = (List.replicate k (TL.tl Sp)).flatten := by simp [TL.tl, timesS]
  rw [e, tl_sp]
  clear e
  induction k with
  | zero => rfl
  | succ k ih => rw [List.replicate_succ, List.flatten_cons, ih, List.replicate_succ]; rfl
theorem as_times (k : Nat) : As k (timesS Sp k) := by
  have h := As.times (n := 1) (x := Sp) ⟨by decide +kernel, fun c hc => by
    have e : Sp.cps.toList = [32] := tl_sp
    rw [e, List.mem_singleton] at hc
    omega⟩ k
  rwa [Nat.mul_one] at h
/-- a joined text's length -/
theorem join_as {n : Nat} : ∀ {ws : List Str} {y : Str}, As 1 y → (∀ w ∈ ws, As n w) → As (ws.length * (n + 1)) (Txt.join y ws) := fun {ws y} hy h => by
  rw [TL.join_eq]
  induction ws with
  | nil => exact ⟨Nat.zero_le _, fun c hc => by cases hc⟩
  | cons a r ih =>
    cases r with
    | nil =>
      show As _ a
      exact (h a (List.mem_cons_self ..)).mono (by simp)
    | cons b r =>
      show As _ (a ++ y ++ Str.join y (b :: r))
      have h1 := ih fun w hw => h w (List.mem_cons_of_mem _ hw)
      refine (((h a (List.mem_cons_self ..)).app hy).app h1).mono ?_
      simp only [List.length_cons, Nat.add_mul, Nat.one_mul]
      omega
end L_k75
namespace L_k75
open PySem PySem.Spec PyProof.Rows L2 PD
local macro_rules | `(tactic| simp_arith [$xs,*]) => `(tactic| try simp only [↓W_eDispT, ↓W_eLkT, ↓WV_nSetS, ↓WV_nRet, ↓WVT_nNin, ↓WV_nAhPut, ↓WV_nPut, ↓WV_nAug, ↓WV_nSetd, ↓WV_nBes, ↓WO_cW, ↓WV_nCallW, ↓WV_nSetW, ↓W_eMethN, ↓W_eMethS, ↓W_eNW, ↓W_eNB, ↓WV_nNil, ↓WV_nSeq, ↓WV_nIf, ↓WVT_nTst, ↓WVT_nAndT, ↓WV_nLift, ↓WV_nFrz, ↓WV_nFor, ↓W_ckB, ↓W_eCallR, ↓W_eCallB, ↓W_eFT, ↓W_eFS, ↓W_eP1, ↓W_sExpB, ↓W_sRetB, ↓W_sSetB, ↓W_sRetZ, ↓W_sKeep, ↓W_sSea, ↓W_sPop, ↓W_eOpB, ↓W_mNew, ↓W_sNewB, ↓W_sNewP, ↓WO_runR, ↓WO_runB, ↓W_eDisp, ↓W_qN, ↓W_qA, ↓W_qJs, ↓W_qJi, ↓W_rt, ↓W_bd, ↓W_eC, ↓W_eV, ↓W_cN, ↓W_cA, ↓W_eP, ↓W_eM, ↓W_eMf, ↓W_ckF, ↓W_ckT, ↓W_eU, ↓W_eUC, ↓W_eTup, ↓W_eLst, ↓W_eDk, ↓W_eDt, ↓W_mB, ↓W_mT, ↓W_mNot, ↓W_mAnd, ↓W_mOr, ↓W_eNot, ↓W_eAnd, ↓W_eOr, ↓W_eIf, ↓W_eTmp, ↓W_eTmpA, ↓W_cNn, ↓W_cAn, ↓W_eTmpL, ↓W_mTmp, ↓W_oN, ↓W_oS, ↓W_eSl, ↓W_eChain, ↓W_sNil, ↓W_sPass, ↓W_sBrk, ↓W_sCnt, ↓W_sRetN, ↓W_sSeq, ↓W_sExp, ↓W_sRet, ↓W_sIf, ↓W_sAsg, ↓W_gsN, ↓W_gsC, ↓W_gT, ↓W_gTl, ↓W_gS, ↓W_sRaise0, ↓W_sRaise1, ↓W_sTryK, ↓W_sCallX, ↓W_hb_im, ↓W_hb_fr, ↓W_hb_bo, ↓W_sPF, ↓W_sPF3, ↓W_sPF4, ↓W_gN_im, ↓W_gN_fr, ↓W_gN_bo, ↓W_frz_im, ↓W_frz_fr, ↓W_frz_bo, ↓W_frzs_nil, ↓W_frzs_cons, ↓W_frzA_nil, ↓W_frzA_t, ↓W_frzA_im, ↓W_frzA_bo, ↓W_callE, ↓W_eCallN, ↓W_eCallF, ↓WO_runF, ↓W_mR1, ↓W_mR2, ↓W_mR3, ↓W_eRev, ↓W_eRev2, ↓W_eRev7, ↓W_eFrz, ↓W_eGetZ, ↓W_eKf, ↓W_eLk, ↓W_mLst, ↓W_mLz, ↓W_mTup, ↓W_mEnum, ↓W_mEnumT, ↓W_mStr, ↓W_mDk, ↓W_mZip, ↓W_sFor, ↓W_sWhl, ↓W_eComp, ↓W_eTupB, ↓W_sAug, ↓W_sAugS, ↓W_eTmpD, ↓W_eTmpU, ↓W_sLkS, ↓W_mDi, ↓W_mZipM, ↓Rw_to4, ↓Rw_from4, ↓W_gT_Fld, ↓W_gT_Gt, ↓W_gT_Lt, ↓W_gT_bD, ↓W_gT_Dn, ↓W_gT_Rw, ↓Fld_i0, ↓Fld_i1, ↓Fld_i2, ↓Fld_i3, ↓Fld_i4, ↓Gt_i0, ↓Gt_i1, ↓Gt_i2, ↓Gt_i3, ↓Lt_i0, ↓Lt_i1, ↓Lt_i2, ↓bD_i0, ↓bD_i1, ↓Dn_i0, ↓Dn_i1, ↓Dn_i2, ↓Dn_i3, ↓Rw_i0, ↓Rw_i1, ↓Rw_i2, ↓Rw_i3, ↓Rw_i4, ↓Rw_i5, ↓Rw_i6, ↓Ter_i0, ↓Ter_i1, imsV_nil, imsV_cons, okSl_im, okSl_em, okSl_ow, nd1_im, kd1_im, int1_im, kv1_im, isNs_nt, noBo, nxV_nx, isEm_em, isNt_nt, thE_nil, thE_cons, isIm_im, isIm_em, isIm_ow, slNm_em, slNm_im, slNm_ow, nm_nd, nodeD_nd, keyW_nd, bkO, bkNO, setBk_nil, setBk_cons, setBk_em, setBk_im, setBk_ow, setBk_io, setBk_bk, insB0, insB1, insB2, insB3, isBk_bk, BkS.nm, Vl.nmB, FnN_sig, Fk_sem, Fk_sig, exV_im, exV_ex, exOf_ex, exOf_nx, tyF, frK_fr, nxK_nx, lstLF, atomV, WO_map, WO_some, WO_none, WB_true, WB_false, WC_true, goes_nx, goes_ct, goes_bk, goes_rt, cut_nx, cut_bk, cut_ct, cut_rt, List.eraseIdx_cons_zero, List.eraseIdx_cons_succ, puts_nil, puts_cons, List.getElem?_cons_zero, List.getElem?_cons_succ, setO, frzO_eq, Option.map_some, putO, putC, List.set_cons_zero, List.set_cons_succ, mutAtD, only, dropM, mutL, PD.cnts, PD.cnt, Vl.hold, tyT, beq_self_eq_true, small_eq, lessL_eq, decide_true, decide_false, List.length_cons, List.length_nil, mkE, List.replicate_succ, List.replicate_zero, List.cons_append, List.nil_append, outE, retV, ioAll, ioIx, brIx, mutAt, updE, disj, nmOut, Vl.nm, D.nm, D.nmC, nms, Sl.mut, Sl.frz, D.atom, List.map_cons, List.map_nil, wipeE, unwipe, calm_em, calm_im, calm_none, List.all_cons, List.all_nil, Bool.and_true, Bool.true_and, Bool.and_self, Bool.or_true, Bool.or_self, Bool.true_or, Bool.false_or, Bool.or_false, Bool.not_true, Bool.not_false, Bool.and_false, Bool.false_and, List.isEmpty_nil, List.isEmpty_cons, List.nodup_cons, List.nodup_nil, List.not_mem_nil, not_false_eq_true, and_self, List.contains_nil, if_true, if_false, Bool.false_eq_true, ite_true, ite_false, rg1, rg2, rg3_10, revLD, rev2D, rev7D, addND, subND, seqL, seqZ, seqT, zipO, addD, subD, mulD, mulTD, divD, modD, powD, negD, ltD, leD, gtD, geD, lenD, absD, minD, maxD, PD.intD, ixD, isnD, appendD, reverseD, extendD, slD, setD, listD, tupleD, tupleBD, truD, at0, at1, at2, at3, at4, at5, at6, at7, sd0, sd1, sd2, sd3, ixN, Int.cast_ofNat_Int, Int.reduceEq, Int.reduceNe, Int.reduceLT, Int.reduceLE, Int.reduceNeg, Int.reduceAdd, Int.reduceSub, Int.reduceMul, Int.reducePow, Nat.reducePow, Int.reduceToNat, Int.reduceAbs, ne_eq, not_true_eq_false, Nat.zero_add, Nat.add_zero, Nat.reduceAdd, Nat.reduceSub, Nat.reduceLT, Nat.reduceLeDiff, Nat.reduceEqDiff, Nat.reduceMul, i63_0, i63_1, zipMO_lt, zipMO_tl, zipMO_ll, List.flatten_cons, List.flatten_nil, Nat.lt_irrefl, reduceCtorEq, Nat.zero_lt_succ, Nat.reduceSubDiff, Nat.sub_zero, Nat.sub_self, Bool.not_eq_true, Bool.not_eq_false, b__law_box, b__law_take, ce__law_words_1, cp__law_words_1, ce__law_words_2, cp__law_words_2, ce__law_words_3, cp__law_words_3, fl__law_words_4, b__law_words, fl__law_text_1, b__law_text, fl__law_row_1, ce__law_row_2, cp__law_row_2, b__law_row, fl__law_loose_1, b__law_loose, ce__law_same_1, cp__law_same_1, b__law_same, ce_number_in_1, cp_number_in_1, b_number_in, ce_is_name_1, cp_is_name_1, b_is_name, ce_names_in_1, cp_names_in_1, b_names_in, ce_are_rising_1, cp_are_rising_1, b_are_rising, b_thing_in, b_may_be, ce_read_row_1, cp_read_row_1, ce_read_row_2, cp_read_row_2, b_read_row, fl_law_1, fl_law_2, fl_law_3, b_law, sig__law_box, sig__law_take, sig__law_words, sig__law_text, sig__law_row, sig__law_loose, sig_number_in, sig_is_name, sig_names_in, sig_are_rising, sig_thing_in, sig_may_be, sig_read_row, sig_law, ↓W_mZipC, $xs,*])
local macro_rules | `(tactic| simp_arith) => `(tactic| simp_arith [W_cN])
def LS : D := .str (Str.ofString "abcdefghijklmnopqrstuvwxyz")
theorem letter_wp {r : Int} {K : Vl → Prop} (h0 : 0 ≤ r) (h1 : r < 26) (q : ∀ c ∈ PD.LT, K (.im (.str ⟨#[c]⟩))) : @WO _ (ixD [LS, .int r]) ⟨K⟩ := by
  obtain ⟨c, hc, hx⟩ := letter_at r h0 h1
  have e : ixD [LS, .int r] = if small (Str.ofString "abcdefghijklmnopqrstuvwxyz").length = true then (L2.atI (Str.ofString "abcdefghijklmnopqrstuvwxyz").cps.toList r).map (fun c => Vl.im (.str ⟨#[c]⟩)) else none := rfl
  rw [e, if_pos LT_small, hx, Option.map_some, WO_some]
  exact q c hc
theorem all_capp {cs : List Nat} {c : Nat} {P : Nat → Prop} (h : ∀ x ∈ cs, P x) (hc : P c) : ∀ x ∈ cs ++ [c], P x := fun x hx => by
  rcases List.mem_append.mp hx with hx | hx
  · exact h x hx
  · rw [List.mem_singleton.mp hx]
    exact hc
theorem sLS : (D.str "abcdefghijklmnopqrstuvwxyz") = LS := rfl
def PL (n : Nat) (e0 : PD.Env) (i : Nat) (ys : List D) (e : PD.Env) : Prop := ∃ (cs : List Nat) (l : D), ys = cs.map (fun c => D.str ⟨#[c]⟩) ∧ (∀ c ∈ cs, c ∈ PD.LT) ∧ cs.length = i ∧ Lf (n + i) l ∧ e = puts e0 [(0, .io 0 l)]
theorem signs_str {cs : List Nat} {m : Nat} (h : ∀ c ∈ cs, c ∈ PD.LT) (hl : cs.length ≤ m) : As m ⟨cs.toArray⟩ := ⟨by show cs.toArray.size ≤ m; simpa using hl, fun c hc => LT_low c (h c (by simpa using hc))⟩
/-! the sheets' own words -/
def OW1 : List Str := ["field", "gate", "begin", "rain", "sun", "lend", "let", "shut", "wet", "dry", "nowet", "nodry", "mend", "undo", "stands", "rows"].map Str.ofString
def OW2 : List Str := ["holder", "owing", "fault", "plan", "drowns", "lost", "none", "even", "done", "used", "clash", "lack", "bar"].map Str.ofString
def nmB (x : Str) : Bool := decide (1 ≤ x.length) && decide (x.length ≤ 6) && x.cps.toList.all fun c => decide (c ∈ PD.LT)
theorem nmB_nm {x : Str} (h : nmB x = true) : NmL x := by
  unfold nmB at h
  simp only [Bool.and_eq_true, decide_eq_true_eq, List.all_eq_true] at h
  exact ⟨h.1.1, h.1.2, h.2⟩
theorem ow_nm : ∀ x ∈ OW1 ++ OW2, NmL x := fun x hx => nmB_nm (List.all_eq_true.mp (show (OW1 ++ OW2).all nmB = true by decide +kernel) x hx)
theorem ow1_txt : Str.ofString "field gate begin rain sun lend let shut wet dry nowet nodry mend undo stands rows" = Txt.join Sp OW1 := by decide +kernel
theorem ow2_txt : Str.ofString "holder owing fault plan drowns lost none even done used clash lack bar" = Txt.join Sp OW2 := by decide +kernel
theorem splitW {n : Nat} {ws : List Str} (hne : ws ≠ []) (h : ∀ w ∈ ws, Wd n w) (hl : ws.length * (n + 1) ≤ 100000) : splitD [.str (Txt.join Sp ws), .str Sp] = some (.fr (.lst (ws.map D.str))) := by
  have ha := join_as (n := n) (y := Sp) (ws := ws) ⟨by decide +kernel, fun c hc => by
    have e : Sp.cps.toList = [32] := tl_sp
    rw [e, List.mem_singleton] at hc
    omega⟩ fun w hw => (h w hw).as
  rw [split_sem tl_sp (by decide +kernel) ha hl, split_joined hne h]
theorem ow1_split : splitD [.str (Str.ofString "field gate begin rain sun lend let shut wet dry nowet nodry mend undo stands rows"), .str (Str.ofString " ")] = some (.fr (.lst (OW1.map D.str))) := by
  rw [ow1_txt]
  exact splitW (n := 6) (by decide) (fun w hw => .nm (ow_nm w (List.mem_append_left _ hw))) (by decide)
theorem ow2_split : splitD [.str (Str.ofString "holder owing fault plan drowns lost none even done used clash lack bar"), .str (Str.ofString " ")] = some (.fr (.lst (OW2.map D.str))) := by
  rw [ow2_txt]
  exact splitW (n := 6) (by decide) (fun w hw => .nm (ow_nm w (List.mem_append_right _ hw))) (by decide)
theorem ow1_len : OW1.length = 16 := rfl
theorem ow2_len : OW2.length = 13 := rfl
theorem names_wp {n m : Nat} {l : D} {K : Vl × List D → Prop} (h : Lf n l) (hn : n < 2 ^ 20) (hm : m ≤ 20)
    (q : ∀ (xs : List Str) (l' : D), xs.length = m → xs.Nodup → (∀ x ∈ xs, NmL x) → Lf (n + 11 * m) l' → K (.fr (.lst (xs.map D.str)), [l', .int (m : Int)])) : @WO _ (F__law_words.sem [l, .int (m : Int)]) ⟨K⟩ := by
  rw [sem__law_words]
  simp_arith [b__law_words, sLS, ↓ow1_split, ↓ow2_split, List.length_map, ow1_len, ow2_len, ← List.map_append]
  refine WO_if (by exact in62_small (by omega) (by omega)) ?_
  simp_arith
  refine W_forE (fun e0 i e => ∃ xs l a b c d, xs.length = i ∧ xs.Nodup ∧ (∀ x ∈ xs, NmL x) ∧ Lf (n + 11 * i) l ∧ e = puts e0 [(0, .io 0 l), (3, .ow (.lst (xs.map D.str))), (5, a), (6, b), (7, c), (8, d)]) ⟨[], l, .em, .em, .em, .em, rfl, List.nodup_nil, fun _ h => by simp at h, h, rfl⟩ ?_ ?_
  · rintro i d' _ hd ⟨xs, l0, a, b, c, d, hl, hnd, hy, B0, rfl⟩
    obtain ⟨hi, rfl⟩ := rng_get hd
    rw [Int.toNat_natCast] at hi
    simp_arith
    rw [fb__law_words_4]
    refine W_cut4 (fun e0 e' => ∃ x l a a2, NmL x ∧ Lf (n + 11 * i + 11) l ∧ e' = puts e0 [(0, .io 0 l), (6, a), (7, .im (.str x)), (8, a2)]) ?_ ?_
    rotate_left
    · rintro _ ⟨x, l1, a', a2', hx, B1, rfl⟩
      have hfl : xs.length < 26 := by omega
      obtain ⟨y, r, hf, hyc, hyn⟩ := cand_free x hfl
      have hx5l := (stem5_as hx.as).len
      have hxl := hx.l1
      simp_arith [LS]
      refine W_comp_mapA (fun c : Nat => D.str ⟨#[c]⟩) (fun c => .str (stem5 x ++ ⟨#[c]⟩)) (fun c hc => ?_) ?_
      · have hc1 : (⟨#[c]⟩ : Str).length = 1 := rfl
        have e5 : cutS x none (some 5) = stem5 x := rfl
        simp_arith [ce__law_words_1]
        refine WO_ifd (by omega) ?_
        simp_arith [e5, hc1]
        refine WO_ifd (by omega) ?_
        simp_arith
      have hll : ((Str.ofString "abcdefghijklmnopqrstuvwxyz").cps.toList.map fun c => D.str (stem5 x ++ ⟨#[c]⟩)).length = 26 := by
        rw [List.length_map]
        exact LT_len
      have hcd : [D.str x] ++ (Str.ofString "abcdefghijklmnopqrstuvwxyz").cps.toList.map (fun c => D.str (stem5 x ++ ⟨#[c]⟩)) = (cand x).map D.str := (cand_d x).symm
      rw [hll]
      refine WC_mk rfl ?_
      generalize hg : (Str.ofString "abcdefghijklmnopqrstuvwxyz").cps.toList.map (fun c => D.str (stem5 x ++ ⟨#[c]⟩)) = gg at hll hcd ⊢
      have hcd : D.str x :: gg = (cand x).map D.str := hcd
      simp_arith [hll]
      rw [hcd]
      refine W_comp_fltA D.str (fun y => !decide (y ∈ xs)) (fun y => .str y) (fun y hy => ?_) ?_
      · by_cases hin : y ∈ xs
        · simp_arith [notIn_strs, hin]
        · simp_arith [notIn_strs, hin]
      rw [hf, List.map_cons]
      have hrl : r.length ≤ 26 := by
        have h1 := List.length_filter_le (fun y => !decide (y ∈ xs)) (cand x)
        rw [hf, List.length_cons] at h1
        have h2 : (cand x).length = 27 := by
          rw [cand, List.length_cons, List.length_map, LT_len]
        omega
      simp_arith [List.length_map]
      refine WC_dec (by omega) ?_
      simp_arith [List.length_map]
      refine WO_ifd (by omega) ?_
      have happ : xs.map D.str ++ [D.str y] = (xs ++ [y]).map D.str := by
        rw [List.map_append]
        rfl
      simp_arith [happ]
      refine ⟨xs ++ [y], l1, _, _, _, _, by rw [List.length_append, hl]; rfl, ?_, fun z hz => ?_, B1.mono (by omega), rfl⟩
      · refine List.nodup_append.mpr ⟨hnd, by simp, fun p hp z hz e => ?_⟩
        rw [List.mem_singleton.mp hz] at e
        exact hyn (e ▸ hp)
      · rcases List.mem_append.mp hz with hz | hz
        · exact hy z hz
        · rw [List.mem_singleton.mp hz]
          exact cand_nm hx y hyc
    simp_arith
    refine pick_wp (by assumption) (by omega) (by omega) (by omega) fun r1 l1 r1a r1b B1 => ?_
    simp_arith
    refine WO_atP (P := Has (.int 1 6)) ?_ (by omega) (by simp; omega) ?_
    · iterate 3 refine all_cons (Has.mkI (by omega) (by omega)) ?_
      exact all_nil
    rintro _ ⟨sz, rfl, sz0, sz1⟩
    simp_arith
    refine WO_if (by exact in62_small (by omega) (by omega)) ?_
    simp_arith
    refine W_compE (PL (n + 11 * i + 1)) ⟨[], l1, rfl, fun _ h => by simp at h, rfl, B1, rfl⟩ ?_ ?_
    · rintro j d ys e' hd ⟨cs, l3, rfl, hcs, hcl, B3, rfl⟩
      have hj := (rng_get hd).1
      simp_arith [ce__law_words_3]
      refine pick_wp (by assumption) (by omega) (by omega) (by omega) fun r3 l4 r3a r3b B4 => ?_
      simp_arith
      refine letter_wp (by omega) (by omega) fun c hc => ?_
      simp_arith
      exact ⟨cs ++ [c], l4, by simp, all_capp hcs hc, by simp [hcl], B4.mono (by omega), rfl⟩
    rintro ys e' ⟨cs, l3, rfl, hcs, hcl, B3, rfl⟩
    rw [rng_len] at hcl B3
    have j1 := join_sem cs (by omega) fun c hc => LT_low c (hcs c hc)
    have hnm := NmL.of (cs := cs) (by omega) (by omega) hcs
    generalize (⟨cs.toArray⟩ : Str) = st at *
    have hne := neD_nil (t := .str 6) (ds := xs.map D.str) (strs_has fun x hx => (hy x hx).as) (by decide)
    simp_arith [List.length_map]
    refine WC_dec (by omega) ?_
    simp_arith [j1]
    refine pick_wp (by assumption) (by omega) (by omega) (by omega) fun r4 l4 r4a r4b B4 => ?_
    simp_arith [eqD_int]
    refine WB_cases' (fun _ => ?_) (fun _ => ?_)
    · simp_arith [List.length_map, List.length_append, ow1_len, ow2_len]
      refine pick_wp (by assumption) (by omega) (by omega) (by omega) fun r7 l7 r7a r7b B7 => ?_
      simp_arith
      refine WO_atA D.str (by omega) (by rw [List.length_append, ow1_len, ow2_len]; omega) fun j2 y _ hy2 => ?_
      simp_arith
      exact ⟨y, l7, _, _, ow_nm y (List.mem_of_getElem? hy2), B7.mono (by omega), rfl⟩
    simp_arith [eqD_int]
    refine WB_cases' (fun _ => ?_) (fun _ => ?_)
    · simp_arith [hne]
      cases hem : (xs.map D.str).isEmpty with
      | true =>
        simp_arith
        exact ⟨st, l4, _, _, hnm, B4.mono (by omega), rfl⟩
      | false =>
        have h1 : 1 ≤ xs.length := by
          cases xs with
          | nil => cases hem
          | cons _ _ => simp
        simp_arith [List.length_map]
        refine pick_wp (by assumption) (by omega) (by omega) (by omega) fun r5 l5 r5a r5b B5 => ?_
        simp_arith
        refine WO_atA D.str (by omega) (by omega) fun j2 y _ hy2 => ?_
        have hyn := hy y (List.mem_of_getElem? hy2)
        have hyl := hyn.l1
        have e5 : cutS y none (some 5) = stem5 y := rfl
        have hx5l := (stem5_as hyn.as).len
        simp_arith
        refine WO_ifd (by omega) ?_
        simp_arith [e5]
        refine pick_wp (by assumption) (by omega) (by omega) (by omega) fun r6 l6 r6a r6b B6 => ?_
        simp_arith
        refine letter_wp (by omega) (by omega) fun c hc => ?_
        have hc1 : (⟨#[c]⟩ : Str).length = 1 := rfl
        have hxc : (cutS y none (some 5)).length ≤ 5 := hx5l
        simp_arith [hc1]
        refine WO_ifd (by omega) ?_
        simp_arith
        exact ⟨_, l6, _, _, stem5_nm hyn hc, B6.mono (by omega), rfl⟩
    · simp_arith
      exact ⟨st, l4, _, _, hnm, B4.mono (by omega), rfl⟩
  · rintro _ ⟨xs, l0, a, b, c, d, hl, hnd, hy, B0, rfl⟩
    rw [rng_len, Int.toNat_natCast] at hl B0
    simp_arith
    exact q xs _ hl hnd hy B0
end L_k75
namespace L_k75
open PySem PySem.Spec PyProof.Rows L2 PD
local macro_rules | `(tactic| simp_arith [$xs,*]) => `(tactic| try simp only [↓W_eDispT, ↓W_eLkT, ↓WV_nSetS, ↓WV_nRet, ↓WVT_nNin, ↓WV_nAhPut, ↓WV_nPut, ↓WV_nAug, ↓WV_nSetd, ↓WV_nBes, ↓WO_cW, ↓WV_nCallW, ↓WV_nSetW, ↓W_eMethN, ↓W_eMethS, ↓W_eNW, ↓W_eNB, ↓WV_nNil, ↓WV_nSeq, ↓WV_nIf, ↓WVT_nTst, ↓WVT_nAndT, ↓WV_nLift, ↓WV_nFrz, ↓WV_nFor, ↓W_ckB, ↓W_eCallR, ↓W_eCallB, ↓W_eFT, ↓W_eFS, ↓W_eP1, ↓W_sExpB, ↓W_sRetB, ↓W_sSetB, ↓W_sRetZ, ↓W_sKeep, ↓W_sSea, ↓W_sPop, ↓W_eOpB, ↓W_mNew, ↓W_sNewB, ↓W_sNewP, ↓WO_runR, ↓WO_runB, ↓W_eDisp, ↓W_qN, ↓W_qA, ↓W_qJs, ↓W_qJi, ↓W_rt, ↓W_bd, ↓W_eC, ↓W_eV, ↓W_cN, ↓W_cA, ↓W_eP, ↓W_eM, ↓W_eMf, ↓W_ckF, ↓W_ckT, ↓W_eU, ↓W_eUC, ↓W_eTup, ↓W_eLst, ↓W_eDk, ↓W_eDt, ↓W_mB, ↓W_mT, ↓W_mNot, ↓W_mAnd, ↓W_mOr, ↓W_eNot, ↓W_eAnd, ↓W_eOr, ↓W_eIf, ↓W_eTmp, ↓W_eTmpA, ↓W_cNn, ↓W_cAn, ↓W_eTmpL, ↓W_mTmp, ↓W_oN, ↓W_oS, ↓W_eSl, ↓W_eChain, ↓W_sNil, ↓W_sPass, ↓W_sBrk, ↓W_sCnt, ↓W_sRetN, ↓W_sSeq, ↓W_sExp, ↓W_sRet, ↓W_sIf, ↓W_sAsg, ↓W_gsN, ↓W_gsC, ↓W_gT, ↓W_gTl, ↓W_gS, ↓W_sRaise0, ↓W_sRaise1, ↓W_sTryK, ↓W_sCallX, ↓W_hb_im, ↓W_hb_fr, ↓W_hb_bo, ↓W_sPF, ↓W_sPF3, ↓W_sPF4, ↓W_gN_im, ↓W_gN_fr, ↓W_gN_bo, ↓W_frz_im, ↓W_frz_fr, ↓W_frz_bo, ↓W_frzs_nil, ↓W_frzs_cons, ↓W_frzA_nil, ↓W_frzA_t, ↓W_frzA_im, ↓W_frzA_bo, ↓W_callE, ↓W_eCallN, ↓W_eCallF, ↓WO_runF, ↓W_mR1, ↓W_mR2, ↓W_mR3, ↓W_eRev, ↓W_eRev2, ↓W_eRev7, ↓W_eFrz, ↓W_eGetZ, ↓W_eKf, ↓W_eLk, ↓W_mLst, ↓W_mLz, ↓W_mTup, ↓W_mEnum, ↓W_mEnumT, ↓W_mStr, ↓W_mDk, ↓W_mZip, ↓W_sFor, ↓W_sWhl, ↓W_eComp, ↓W_eTupB, ↓W_sAug, ↓W_sAugS, ↓W_eTmpD, ↓W_eTmpU, ↓W_sLkS, ↓W_mDi, ↓W_mZipM, ↓Rw_to4, ↓Rw_from4, ↓W_gT_Fld, ↓W_gT_Gt, ↓W_gT_Lt, ↓W_gT_bD, ↓W_gT_Dn, ↓W_gT_Rw, ↓Fld_i0, ↓Fld_i1, ↓Fld_i2, ↓Fld_i3, ↓Fld_i4, ↓Gt_i0, ↓Gt_i1, ↓Gt_i2, ↓Gt_i3, ↓Lt_i0, ↓Lt_i1, ↓Lt_i2, ↓bD_i0, ↓bD_i1, ↓Dn_i0, ↓Dn_i1, ↓Dn_i2, ↓Dn_i3, ↓Rw_i0, ↓Rw_i1, ↓Rw_i2, ↓Rw_i3, ↓Rw_i4, ↓Rw_i5, ↓Rw_i6, ↓Ter_i0, ↓Ter_i1, imsV_nil, imsV_cons, okSl_im, okSl_em, okSl_ow, nd1_im, kd1_im, int1_im, kv1_im, isNs_nt, noBo, nxV_nx, isEm_em, isNt_nt, thE_nil, thE_cons, isIm_im, isIm_em, isIm_ow, slNm_em, slNm_im, slNm_ow, nm_nd, nodeD_nd, keyW_nd, bkO, bkNO, setBk_nil, setBk_cons, setBk_em, setBk_im, setBk_ow, setBk_io, setBk_bk, insB0, insB1, insB2, insB3, isBk_bk, BkS.nm, Vl.nmB, FnN_sig, Fk_sem, Fk_sig, exV_im, exV_ex, exOf_ex, exOf_nx, tyF, frK_fr, nxK_nx, lstLF, atomV, WO_map, WO_some, WO_none, WB_true, WB_false, WC_true, goes_nx, goes_ct, goes_bk, goes_rt, cut_nx, cut_bk, cut_ct, cut_rt, List.eraseIdx_cons_zero, List.eraseIdx_cons_succ, puts_nil, puts_cons, List.getElem?_cons_zero, List.getElem?_cons_succ, setO, frzO_eq, Option.map_some, putO, putC, List.set_cons_zero, List.set_cons_succ, mutAtD, only, dropM, mutL, PD.cnts, PD.cnt, Vl.hold, tyT, beq_self_eq_true, small_eq, lessL_eq, decide_true, decide_false, List.length_cons, List.length_nil, mkE, List.replicate_succ, List.replicate_zero, List.cons_append, List.nil_append, outE, retV, ioAll, ioIx, brIx, mutAt, updE, disj, nmOut, Vl.nm, D.nm, D.nmC, nms, Sl.mut, Sl.frz, D.atom, List.map_cons, List.map_nil, wipeE, unwipe, calm_em, calm_im, calm_none, List.all_cons, List.all_nil, Bool.and_true, Bool.true_and, Bool.and_self, Bool.or_true, Bool.or_self, Bool.true_or, Bool.false_or, Bool.or_false, Bool.not_true, Bool.not_false, Bool.and_false, Bool.false_and, List.isEmpty_nil, List.isEmpty_cons, List.nodup_cons, List.nodup_nil, List.not_mem_nil, not_false_eq_true, and_self, List.contains_nil, if_true, if_false, Bool.false_eq_true, ite_true, ite_false, rg1, rg2, rg3_10, revLD, rev2D, rev7D, addND, subND, seqL, seqZ, seqT, zipO, addD, subD, mulD, mulTD, divD, modD, powD, negD, ltD, leD, gtD, geD, lenD, absD, minD, maxD, PD.intD, ixD, isnD, appendD, reverseD, extendD, slD, setD, listD, tupleD, tupleBD, truD, at0, at1, at2, at3, at4, at5, at6, at7, sd0, sd1, sd2, sd3, ixN, Int.cast_ofNat_Int, Int.reduceEq, Int.reduceNe, Int.reduceLT, Int.reduceLE, Int.reduceNeg, Int.reduceAdd, Int.reduceSub, Int.reduceMul, Int.reducePow, Nat.reducePow, Int.reduceToNat, Int.reduceAbs, ne_eq, not_true_eq_false, Nat.zero_add, Nat.add_zero, Nat.reduceAdd, Nat.reduceSub, Nat.reduceLT, Nat.reduceLeDiff, Nat.reduceEqDiff, Nat.reduceMul, i63_0, i63_1, zipMO_lt, zipMO_tl, zipMO_ll, List.flatten_cons, List.flatten_nil, Nat.lt_irrefl, reduceCtorEq, Nat.zero_lt_succ, Nat.reduceSubDiff, Nat.sub_zero, Nat.sub_self, Bool.not_eq_true, Bool.not_eq_false, b__law_box, b__law_take, ce__law_words_1, cp__law_words_1, ce__law_words_2, cp__law_words_2, ce__law_words_3, cp__law_words_3, fl__law_words_4, b__law_words, fl__law_text_1, b__law_text, fl__law_row_1, ce__law_row_2, cp__law_row_2, b__law_row, fl__law_loose_1, b__law_loose, ce__law_same_1, cp__law_same_1, b__law_same, ce_number_in_1, cp_number_in_1, b_number_in, ce_is_name_1, cp_is_name_1, b_is_name, ce_names_in_1, cp_names_in_1, b_names_in, ce_are_rising_1, cp_are_rising_1, b_are_rising, b_thing_in, b_may_be, ce_read_row_1, cp_read_row_1, ce_read_row_2, cp_read_row_2, b_read_row, fl_law_1, fl_law_2, fl_law_3, b_law, sig__law_box, sig__law_take, sig__law_words, sig__law_text, sig__law_row, sig__law_loose, sig_number_in, sig_is_name, sig_names_in, sig_are_rising, sig_thing_in, sig_may_be, sig_read_row, sig_law, ↓W_mZipC, $xs,*])
local macro_rules | `(tactic| simp_arith) => `(tactic| simp_arith [W_cN])
/-! what a thing of a row is written as -/
inductive Wr : D → Str → Prop
  | str {x : Str} : Wd 7 x → Wr (.str x) x
  | emp : Wr (.str (Str.ofString "")) (Str.ofString "-")
  | num {n : Nat} : n < 1000 → Wr (.int (n : Int)) (strI (n : Int))
  | tup {xs : List Str} : 1 ≤ xs.length → xs.length ≤ 12 → (∀ x ∈ xs, NmL x) → Wr (.tup (xs.map D.str)) (Txt.join Cm xs)
theorem cm_as : As 1 Cm := ⟨by decide +kernel, fun c hc => by
  have e : Cm.cps.toList = [44] := tl_cm
  rw [e, List.mem_singleton] at hc
  omega⟩
theorem sp_as : As 1 Sp := ⟨by decide +kernel, fun c hc => by
  have e : Sp.cps.toList = [32] := tl_sp
  rw [e, List.mem_singleton] at hc
  omega⟩
theorem join_nb {y : Str} (hy : 32 ∉ TL.tl y) : ∀ {ws : List Str}, (∀ w ∈ ws, 32 ∉ TL.tl w) → 32 ∉ TL.tl (Txt.join y ws) := fun {ws} h => by
  rw [TL.join_eq]
  induction ws with
  | nil => exact fun hc => by cases hc
  | cons a r ih =>
    cases r with
    | nil => exact h a (List.mem_cons_self ..)
    | cons b r =>
      show 32 ∉ TL.tl (a ++ y ++ Str.join y (b :: r))
      rw [TL.tl_append, TL.tl_append]
      intro hc
      rcases List.mem_append.mp hc with hc | hc
      · rcases List.mem_append.mp hc with hc | hc
        · exact h a (List.mem_cons_self ..) hc
        · exact hy hc
      · exact ih (fun w hw => h w (List.mem_cons_of_mem _ hw)) hc
theorem join_l0 {y : Str} {ws : List Str} (h1 : 1 ≤ ws.length) (h : ∀ w ∈ ws, 1 ≤ w.length) : 1 ≤ (Txt.join y ws).length := by
  rw [TL.join_eq]
  cases ws with
  | nil => simp at h1
  | cons a r =>
    have ha := h a (List.mem_cons_self ..)
    cases r with
    | nil => exact ha
    | cons b r =>
      show 1 ≤ (a ++ y ++ Str.join y (b :: r)).length
      rw [Str.length_append, Str.length_append]
      omega
theorem fg_low : ∀ c ∈ FG.cps.toList, c < 128 ∧ c ≠ 32 := by decide +kernel
theorem Wr.wd {d : D} {x : Str} (h : Wr d x) : Wd 100 x := by
  cases h with
  | str h => exact h.mono (by decide)
  | emp => exact ⟨⟨by decide +kernel, by decide +kernel⟩, by decide +kernel, by decide +kernel⟩
  | num h =>
    have f := fig_of h
    refine ⟨⟨?_, fun c hc => (fg_low c (f.fg c hc)).1⟩, f.l1, fun hc => (fg_low 32 (f.fg 32 hc)).2 rfl⟩
    rw [f.ln]
    split <;> (try split) <;> omega
  | @tup xs h1 h2 h =>
    refine ⟨?_, join_l0 h1 fun w hw => (h w hw).l0, join_nb (by rw [tl_cm]; decide) fun w hw => (Wd.nm (h w hw)).nb⟩
    refine (join_as cm_as fun w hw => (h w hw).as).mono ?_
    have : xs.length * 7 ≤ 12 * 7 := Nat.mul_le_mul_right _ h2
    omega
theorem joinD_tup {n : Nat} {xs : List Str} {y : Str} (hy : As 1 y) (h1 : xs.length ≤ 1000) (hn : n ≤ 1000) (h : ∀ x ∈ xs, As n x) : joinD [.str y, .tup (xs.map D.str)] = some (.im (.str (Txt.join y xs))) := by
  have e1 : (xs.map (·.length)).sum ≤ xs.length * n := by
    clear h1
    induction xs with
    | nil => simp
    | cons a r ih =>
      have h2 := (h a (List.mem_cons_self ..)).1
      have h3 := ih fun x hx => h x (List.mem_cons_of_mem _ hx)
      simp only [List.map_cons, List.sum_cons, List.length_cons, Nat.succ_mul]
      omega
  have e2 : xs.length * n ≤ 1000 * 1000 := Nat.mul_le_mul h1 hn
  have e3 : xs.length * y.length ≤ 1000 * 1 := Nat.mul_le_mul h1 hy.1
  have e4 : decide ((xs.map (·.length)).sum + xs.length * y.length ≤ 16777216) = true := decide_eq_true (by omega)
  have e5 : PyData.strOk (Txt.join y xs) = true := (join_as hy h).ok
  unfold joinD
  dsimp only
  rw [strsD_strs]
  dsimp only
  rw [e4, e5]
  rfl
theorem joinD_lst {n : Nat} {xs : List Str} {y : Str} (hy : As 1 y) (h1 : xs.length ≤ 1000) (hn : n ≤ 1000) (h : ∀ x ∈ xs, As n x) : joinD [.str y, .lst (xs.map D.str)] = some (.im (.str (Txt.join y xs))) := joinD_tup hy h1 hn h
theorem text_wp {ps : List (Str × D)} {K : Vl × List D → Prop} (h1 : 1 ≤ ps.length) (hl : ps.length ≤ 8) (hw : ∀ p ∈ ps, Wr p.2 p.1)
    (q : K (.im (.str (Txt.join Sp (ps.map (·.1)))), [.tup (ps.map (·.2))])) : @WO _ (F__law_text.sem [.tup (ps.map (·.2))]) ⟨K⟩ := by
  rw [sem__law_text]
  simp_arith
  refine W_forE (fun e0 i e => ∃ a, e = puts e0 [(1, .ow (.lst ((ps.take i).map fun p => D.str p.1))), (2, a)]) ⟨.em, rfl⟩ ?_ ?_
  · rintro i d _ hd ⟨a, rfl⟩
    rw [List.getElem?_map, Option.map_eq_some_iff] at hd
    obtain ⟨p, hp, rfl⟩ := hd
    have hr := hw p (List.mem_of_getElem? hp)
    have hi : i < ps.length := (List.getElem?_eq_some_iff.mp hp).1
    have hln : ((ps.take i).map fun p => D.str p.1).length ≤ 8 := by
      rw [List.length_map, List.length_take]
      omega
    have ht : ((ps.take i).map fun p => D.str p.1) ++ [.str p.1] = (ps.take (i + 1)).map fun p => D.str p.1 := by
      rw [List.take_add_one, hp, List.map_append]
      rfl
    generalize ((ps.take i).map fun p => D.str p.1) = zs at hln ht ⊢
    have hd := hr.wd
    obtain ⟨x, d⟩ := p
    have hr : Wr d x := hr
    simp_arith
    rw [fb__law_text_1]
    cases hr with
    | str h =>
      have i1 : isiD [.str x, .ty "tuple"] = some (.im (.bl false)) := rfl
      have i2 : eqD [.str x, .str (Str.ofString "")] = some (.im (.bl false)) := by
        rw [eqD_str, decide_eq_false (fun e => by have := h.l0; rw [e] at this; revert this; decide +kernel)]
      have i3 : strXD [.str x] = some (.im (.str x)) := rfl
      simp_arith [i1, i2, i3]
      refine WO_ifd (by omega) ?_
      simp_arith [ht]
      exact ⟨_, rfl⟩
    | emp =>
      have i1 : isiD [.str (Str.ofString ""), .ty "tuple"] = some (.im (.bl false)) := rfl
      have i2 : eqD [.str (Str.ofString ""), .str (Str.ofString "")] = some (.im (.bl true)) := by
        rw [eqD_str]
        rfl
      simp_arith [i1, i2]
      refine WO_ifd (by omega) ?_
      simp_arith [ht]
      exact ⟨_, rfl⟩
    | @num n h =>
      have i1 : isiD [.int (n : Int), .ty "tuple"] = some (.im (.bl false)) := rfl
      have i2 : eqD [.int (n : Int), .str (Str.ofString "")] = some (.im (.bl false)) := by
        have := eqD_py (d := .int (n : Int)) (e := .str (Str.ofString "")) rfl rfl rfl
        rw [this]
        rfl
      have i3 : strXD [.int (n : Int)] = some (.im (.str (strI (n : Int)))) := by
        show strND [.int (n : Int)] = _
        unfold strND
        exact if_pos ⟨by have : (n : Int).natAbs = n := rfl; rw [this]; exact Nat.lt_of_lt_of_le h (by decide), (fig_of h).ok⟩
      simp_arith [i1, i2, i3]
      refine WO_ifd (by omega) ?_
      simp_arith [ht]
      exact ⟨_, rfl⟩
    | @tup xs h1 h2 h =>
      have i1 : isiD [.tup (xs.map D.str), .ty "tuple"] = some (.im (.bl true)) := rfl
      have i3 := joinD_tup (n := 6) cm_as (xs := xs) (by omega) (by decide) fun x hx => (h x hx).as
      simp_arith [i1, ↓i3]
      refine WO_ifd (by omega) ?_
      simp_arith [ht]
      exact ⟨_, rfl⟩
  · rintro _ ⟨a, rfl⟩
    rw [List.length_map, List.take_length]
    have i3 := joinD_lst (n := 100) sp_as (xs := ps.map (·.1)) (by rw [List.length_map]; omega) (by decide) fun x hx => by
      obtain ⟨p, hp, rfl⟩ := List.mem_map.mp hx
      exact (hw p hp).wd.as
    rw [List.map_map] at i3
    have e : (D.str ∘ fun p : Str × D => p.1) = fun p => D.str p.1 := rfl
    rw [e] at i3
    simp_arith [↓i3]
    exact q
theorem loose_wp {n : Nat} {l : D} {ws : List Str} {K : Vl × List D → Prop} (h : Lf n l) (hn : n < 2 ^ 20) (hne : ws ≠ []) (hw : ∀ w ∈ ws, Wd 100 w) (hl : ws.length ≤ 8)
    (q : ∀ x l', As 2000 x → wsp x = ws → Lf (n + 20) l' → K (.im (.str x), [l', .str (Txt.join Sp ws)])) : @WO _ (F__law_loose.sem [l, .str (Txt.join Sp ws)]) ⟨K⟩ := by
  have hs := splitW (n := 100) hne hw (by omega)
  rw [sem__law_loose]
  simp_arith
  refine pick_wp (by assumption) (by omega) (by omega) (by omega) fun r0 l0 r0a r0b B0 => ?_
  have m0 := mulS_sem (x := Sp) (k := r0) r0a (by omega) (by decide +kernel)
  simp_arith [↓m0, ↓hs]
  refine W_forE (fun e0 i e => ∃ x l a, Lf (n + 1 + i) l ∧ As (3 + i * 104) x ∧ (∀ cs, wdL (TL.tl x ++ cs) = (ws.take i).map TL.tl ++ wdL cs) ∧ e = puts e0 [(0, .io 0 l), (2, .im (.str x)), (3, a)]) ⟨_, l0, .em, B0, ?_, fun cs => ?_, rfl⟩ ?_ ?_
  · exact (as_times _).mono (by omega)
  · rw [tl_times, wdL_sps]
    rfl
  · rintro i d _ hd ⟨x, l1, a, B1, hx, hc, rfl⟩
    rw [List.getElem?_map, Option.map_eq_some_iff] at hd
    obtain ⟨w, hp, rfl⟩ := hd
    have hi : i < ws.length := (List.getElem?_eq_some_iff.mp hp).1
    have hwd := hw w (List.mem_of_getElem? hp)
    have hxl := hx.1
    have hwl := hwd.as.1
    simp_arith
    rw [fb__law_loose_1]
    simp_arith
    refine WO_ifd (by omega) ?_
    simp_arith
    refine pick_wp (by assumption) (by omega) (by omega) (by omega) fun r2 l2 r2a r2b B2 => ?_
    simp_arith
    have m2 := mulS_sem (x := Sp) (k := 1 + r2) (by omega) (by omega) (by decide +kernel)
    have ha := as_times (1 + r2).toNat
    have hal := ha.1
    have hxw : (x ++ w).length = x.length + w.length := Str.length_append ..
    simp_arith [↓m2]
    refine WO_ifd (by rw [hxw]; omega) ?_
    simp_arith
    refine ⟨_, l2, _, B2.mono (by omega), ((hx.app hwd.as).app ha).mono (by omega), fun cs => ?_, rfl⟩
    rw [TL.tl_append, TL.tl_append, tl_times, List.append_assoc, List.append_assoc, hc, List.take_add_one, hp]
    have e1 : (1 + r2).toNat = r2.toNat + 1 := by omega
    rw [e1, List.replicate_succ, List.cons_append, wdL_word hwd.ne hwd.nb, wdL_sps]
    simp
  · rintro _ ⟨x, l1, a, B1, hx, hc, rfl⟩
    rw [List.length_map] at B1 hx hc
    have hxl := hx.1
    simp_arith
    refine pick_wp (by assumption) (by omega) (by omega) (by omega) fun r2 l2 r2a r2b B2 => ?_
    have m2 := mulS_sem (x := Sp) (k := r2) r2a (by omega) (by decide +kernel)
    have ha := as_times r2.toNat
    have hal := ha.1
    simp_arith [↓m2]
    refine WO_ifd (by omega) ?_
    simp_arith
    refine q _ _ ((hx.app ha).mono (by omega)) (wsp_of ?_) (B2.mono (by omega))
    rw [TL.tl_append, tl_times, hc, List.take_length]
    have := wdL_sps r2.toNat []
    rw [List.append_nil] at this
    rw [this, wdL_nil, List.append_nil]
end L_k75
namespace L_k75
open PySem PySem.Spec PyProof.Rows L2 PD
local macro_rules | `(tactic| simp_arith [$xs,*]) => `(tactic| try simp only [↓W_eDispT, ↓W_eLkT, ↓WV_nSetS, ↓WV_nRet, ↓WVT_nNin, ↓WV_nAhPut, ↓WV_nPut, ↓WV_nAug, ↓WV_nSetd, ↓WV_nBes, ↓WO_cW, ↓WV_nCallW, ↓WV_nSetW, ↓W_eMethN, ↓W_eMethS, ↓W_eNW, ↓W_eNB, ↓WV_nNil, ↓WV_nSeq, ↓WV_nIf, ↓WVT_nTst, ↓WVT_nAndT, ↓WV_nLift, ↓WV_nFrz, ↓WV_nFor, ↓W_ckB, ↓W_eCallR, ↓W_eCallB, ↓W_eFT, ↓W_eFS, ↓W_eP1, ↓W_sExpB, ↓W_sRetB, ↓W_sSetB, ↓W_sRetZ, ↓W_sKeep, ↓W_sSea, ↓W_sPop, ↓W_eOpB, ↓W_mNew, ↓W_sNewB, ↓W_sNewP, ↓WO_runR, ↓WO_runB, ↓W_eDisp, ↓W_qN, ↓W_qA, ↓W_qJs, ↓W_qJi, ↓W_rt, ↓W_bd, ↓W_eC, ↓W_eV, ↓W_cN, ↓W_cA, ↓W_eP, ↓W_eM, ↓W_eMf, ↓W_ckF, ↓W_ckT, ↓W_eU, ↓W_eUC, ↓W_eTup, ↓W_eLst, ↓W_eDk, ↓W_eDt, ↓W_mB, ↓W_mT, ↓W_mNot, ↓W_mAnd, ↓W_mOr, ↓W_eNot, ↓W_eAnd, ↓W_eOr, ↓W_eIf, ↓W_eTmp, ↓W_eTmpA, ↓W_cNn, ↓W_cAn, ↓W_eTmpL, ↓W_mTmp, ↓W_oN, ↓W_oS, ↓W_eSl, ↓W_eChain, ↓W_sNil, ↓W_sPass, ↓W_sBrk, ↓W_sCnt, ↓W_sRetN, ↓W_sSeq, ↓W_sExp, ↓W_sRet, ↓W_sIf, ↓W_sAsg, ↓W_gsN, ↓W_gsC, ↓W_gT, ↓W_gTl, ↓W_gS, ↓W_sRaise0, ↓W_sRaise1, ↓W_sTryK, ↓W_sCallX, ↓W_hb_im, ↓W_hb_fr, ↓W_hb_bo, ↓W_sPF, ↓W_sPF3, ↓W_sPF4, ↓W_gN_im, ↓W_gN_fr, ↓W_gN_bo, ↓W_frz_im, ↓W_frz_fr, ↓W_frz_bo, ↓W_frzs_nil, ↓W_frzs_cons, ↓W_frzA_nil, ↓W_frzA_t, ↓W_frzA_im, ↓W_frzA_bo, ↓W_callE, ↓W_eCallN, ↓W_eCallF, ↓WO_runF, ↓W_mR1, ↓W_mR2, ↓W_mR3, ↓W_eRev, ↓W_eRev2, ↓W_eRev7, ↓W_eFrz, ↓W_eGetZ, ↓W_eKf, ↓W_eLk, ↓W_mLst, ↓W_mLz, ↓W_mTup, ↓W_mEnum, ↓W_mEnumT, ↓W_mStr, ↓W_mDk, ↓W_mZip, ↓W_sFor, ↓W_sWhl, ↓W_eComp, ↓W_eTupB, ↓W_sAug, ↓W_sAugS, ↓W_eTmpD, ↓W_eTmpU, ↓W_sLkS, ↓W_mDi, ↓W_mZipM, ↓Rw_to4, ↓Rw_from4, ↓W_gT_Fld, ↓W_gT_Gt, ↓W_gT_Lt, ↓W_gT_bD, ↓W_gT_Dn, ↓W_gT_Rw, ↓Fld_i0, ↓Fld_i1, ↓Fld_i2, ↓Fld_i3, ↓Fld_i4, ↓Gt_i0, ↓Gt_i1, ↓Gt_i2, ↓Gt_i3, ↓Lt_i0, ↓Lt_i1, ↓Lt_i2, ↓bD_i0, ↓bD_i1, ↓Dn_i0, ↓Dn_i1, ↓Dn_i2, ↓Dn_i3, ↓Rw_i0, ↓Rw_i1, ↓Rw_i2, ↓Rw_i3, ↓Rw_i4, ↓Rw_i5, ↓Rw_i6, ↓Ter_i0, ↓Ter_i1, imsV_nil, imsV_cons, okSl_im, okSl_em, okSl_ow, nd1_im, kd1_im, int1_im, kv1_im, isNs_nt, noBo, nxV_nx, isEm_em, isNt_nt, thE_nil, thE_cons, isIm_im, isIm_em, isIm_ow, slNm_em, slNm_im, slNm_ow, nm_nd, nodeD_nd, keyW_nd, bkO, bkNO, setBk_nil, setBk_cons, setBk_em, setBk_im, setBk_ow, setBk_io, setBk_bk, insB0, insB1, insB2, insB3, isBk_bk, BkS.nm, Vl.nmB, FnN_sig, Fk_sem, Fk_sig, exV_im, exV_ex, exOf_ex, exOf_nx, tyF, frK_fr, nxK_nx, lstLF, atomV, WO_map, WO_some, WO_none, WB_true, WB_false, WC_true, goes_nx, goes_ct, goes_bk, goes_rt, cut_nx, cut_bk, cut_ct, cut_rt, List.eraseIdx_cons_zero, List.eraseIdx_cons_succ, puts_nil, puts_cons, List.getElem?_cons_zero, List.getElem?_cons_succ, setO, frzO_eq, Option.map_some, putO, putC, List.set_cons_zero, List.set_cons_succ, mutAtD, only, dropM, mutL, PD.cnts, PD.cnt, Vl.hold, tyT, beq_self_eq_true, small_eq, lessL_eq, decide_true, decide_false, List.length_cons, List.length_nil, mkE, List.replicate_succ, List.replicate_zero, List.cons_append, List.nil_append, outE, retV, ioAll, ioIx, brIx, mutAt, updE, disj, nmOut, Vl.nm, D.nm, D.nmC, nms, Sl.mut, Sl.frz, D.atom, List.map_cons, List.map_nil, wipeE, unwipe, calm_em, calm_im, calm_none, List.all_cons, List.all_nil, Bool.and_true, Bool.true_and, Bool.and_self, Bool.or_true, Bool.or_self, Bool.true_or, Bool.false_or, Bool.or_false, Bool.not_true, Bool.not_false, Bool.and_false, Bool.false_and, List.isEmpty_nil, List.isEmpty_cons, List.nodup_cons, List.nodup_nil, List.not_mem_nil, not_false_eq_true, and_self, List.contains_nil, if_true, if_false, Bool.false_eq_true, ite_true, ite_false, rg1, rg2, rg3_10, revLD, rev2D, rev7D, addND, subND, seqL, seqZ, seqT, zipO, addD, subD, mulD, mulTD, divD, modD, powD, negD, ltD, leD, gtD, geD, lenD, absD, minD, maxD, PD.intD, ixD, isnD, appendD, reverseD, extendD, slD, setD, listD, tupleD, tupleBD, truD, at0, at1, at2, at3, at4, at5, at6, at7, sd0, sd1, sd2, sd3, ixN, Int.cast_ofNat_Int, Int.reduceEq, Int.reduceNe, Int.reduceLT, Int.reduceLE, Int.reduceNeg, Int.reduceAdd, Int.reduceSub, Int.reduceMul, Int.reducePow, Nat.reducePow, Int.reduceToNat, Int.reduceAbs, ne_eq, not_true_eq_false, Nat.zero_add, Nat.add_zero, Nat.reduceAdd, Nat.reduceSub, Nat.reduceLT, Nat.reduceLeDiff, Nat.reduceEqDiff, Nat.reduceMul, i63_0, i63_1, zipMO_lt, zipMO_tl, zipMO_ll, List.flatten_cons, List.flatten_nil, Nat.lt_irrefl, reduceCtorEq, Nat.zero_lt_succ, Nat.reduceSubDiff, Nat.sub_zero, Nat.sub_self, Bool.not_eq_true, Bool.not_eq_false, b__law_box, b__law_take, ce__law_words_1, cp__law_words_1, ce__law_words_2, cp__law_words_2, ce__law_words_3, cp__law_words_3, fl__law_words_4, b__law_words, fl__law_text_1, b__law_text, fl__law_row_1, ce__law_row_2, cp__law_row_2, b__law_row, fl__law_loose_1, b__law_loose, ce__law_same_1, cp__law_same_1, b__law_same, ce_number_in_1, cp_number_in_1, b_number_in, ce_is_name_1, cp_is_name_1, b_is_name, ce_names_in_1, cp_names_in_1, b_names_in, ce_are_rising_1, cp_are_rising_1, b_are_rising, b_thing_in, b_may_be, ce_read_row_1, cp_read_row_1, ce_read_row_2, cp_read_row_2, b_read_row, fl_law_1, fl_law_2, fl_law_3, b_law, sig__law_box, sig__law_take, sig__law_words, sig__law_text, sig__law_row, sig__law_loose, sig_number_in, sig_is_name, sig_names_in, sig_are_rising, sig_thing_in, sig_may_be, sig_read_row, sig_law, ↓W_mZipC, $xs,*])
local macro_rules | `(tactic| simp_arith) => `(tactic| simp_arith [W_cN])
theorem isname_wp {x : Str} {K : Vl × List D → Prop} (h : NmL x) (q : K (.im (.bl true), [.str x])) : @WO _ (F_is_name.sem [.str x]) ⟨K⟩ := by
  have i1 : isiD [.str x, .ty "str"] = some (.im (.bl true)) := rfl
  obtain ⟨h0, h1, h2⟩ := h
  have s1 : small x.length = true := small_lit (by omega)
  have g1 : (1 : Int) ≤ (x.length : Int) := by omega
  have g2 : (x.length : Int) ≤ 6 := by omega
  rw [sem_is_name]
  simp_arith [i1, s1]
  refine WO_ifd (by omega) ?_
  simp_arith [g1, g2]
  have hc : chD x = x.cps.toList.map fun c => D.str ⟨#[c]⟩ := rfl
  rw [hc]
  refine W_comp_mapA (fun c => D.str ⟨#[c]⟩) (fun _ => .bl true) (fun c hc => ?_) ?_
  · have h3 := h2 c hc
    have h4 : inD [.str ⟨#[c]⟩, .str (Str.ofString "abcdefghijklmnopqrstuvwxyz")] = some (.im (.bl true)) := by
      show some (Vl.im (.bl (Txt.contains (Str.ofString "abcdefghijklmnopqrstuvwxyz") ⟨#[c]⟩))) = _
      rw [contains_sign]
      have : decide (c ∈ (Str.ofString "abcdefghijklmnopqrstuvwxyz").cps.toList) = true := decide_eq_true h3
      rw [this]
    simp_arith [↓h4]
  have hl : x.cps.toList.length ≤ 6 := by
    have : x.cps.size ≤ 6 := h1
    simpa using this
  simp_arith [List.length_map]
  refine WC_dec (by omega) ?_
  simp_arith [all_tr]
  exact q
theorem nameB_wp {x : Str} (h : NmL x) : F_is_name.sem [.str x] = some (.im (.bl true), [.str x]) := by
  obtain ⟨p, h1, h2⟩ := isname_wp (K := fun p => p = (.im (.bl true), [.str x])) h rfl
  rw [h1, h2]
def RisN (xs : List Str) : Prop := xs.Pairwise fun a b => ltStr a b = true
theorem ris_zip : ∀ {xs : List Str}, RisN xs → ∀ p ∈ xs.zip (xs.drop 1), ltStr p.1 p.2 = true
  | [], _, p, hp => by simp at hp
  | [a], _, p, hp => by simp at hp
  | a :: b :: r, h, p, hp => by
    have h1 := List.pairwise_cons.mp h
    rw [List.drop_one, List.tail_cons, List.zip_cons_cons] at hp
    rcases List.mem_cons.mp hp with rfl | hp
    · exact h1.1 b (List.mem_cons_self ..)
    · exact ris_zip (xs := b :: r) h1.2 p (by rw [List.drop_one, List.tail_cons]; exact hp)
theorem zip_strs (xs ys : List Str) : zipD (xs.map D.str) (ys.map D.str) = (xs.zip ys).map fun p => .tup [.str p.1, .str p.2] := by
  induction xs generalizing ys with
  | nil => rfl
  | cons x xs ih =>
    cases ys with
    | nil => rfl
    | cons y ys =>
      show D.tup [.str x, .str y] :: zipD (xs.map D.str) (ys.map D.str) = _
      rw [ih]
      rfl
theorem risingT_wp {xs : List Str} {K : Vl × List D → Prop} (hl : xs.length ≤ 100) (h : RisN xs) (q : K (.im (.bl true), [.tup (xs.map D.str)])) : @WO _ (F_are_rising.sem [.tup (xs.map D.str)]) ⟨K⟩ := by
  have hcut : cutD (xs.map D.str) (some 1) none = (xs.drop 1).map D.str := by
    have := cut_drop (xs.map D.str) 1
    rw [← List.map_drop] at this
    exact this
  have hz := zip_strs xs (xs.drop 1)
  have hzm : ∀ a b : List D, zipMO [.tup a, .tup b] = some (zipD a b) := fun _ _ => rfl
  rw [sem_are_rising]
  simp_arith [hcut, hzm, hz]
  refine W_comp_mapA (fun p : Str × Str => .tup [.str p.1, .str p.2]) (fun _ => .bl true) (fun p hp => ?_) ?_
  · have := ris_zip h p hp
    simp_arith [this]
  have hzl : (xs.zip (xs.drop 1)).length ≤ 100 := by
    rw [List.length_zip]
    omega
  simp_arith [List.length_map]
  refine WC_dec (by omega) ?_
  simp_arith [all_tr]
  exact q
theorem lt_of {a b : Str} (h : ¬ sl b a) (ne : a ≠ b) : ltStr a b = true := by
  unfold ltStr
  refine decide_eq_true ?_
  by_cases h2 : a.cps.toList < b.cps.toList
  · exact h2
  · exfalso
    have h3 : a.cps.toList = b.cps.toList := List.le_antisymm (List.not_lt.mp h) (List.not_lt.mp h2)
    apply ne
    obtain ⟨x⟩ := a
    obtain ⟨y⟩ := b
    have : x = y := Array.ext' h3
    rw [this]
theorem ris_of {xs : List Str} (nd : xs.Nodup) (h : xs.Pairwise fun a b => ¬ sl b a) : RisN xs := by
  unfold RisN
  have : xs.Pairwise fun a b => (¬ sl b a) ∧ a ≠ b := List.pairwise_and_iff.mpr ⟨h, nd⟩
  exact this.imp fun h => lt_of h.1 h.2
theorem le_str {x y : Str} : PySem.W.dataLe false D.py (.str x) (.str y) = true ↔ ¬ sl y x := by
  show (!PySem.W.dataLt (.str y) (.str x)) = true ↔ _
  rw [PySem.W.dataLt_str]
  unfold sl
  simp
theorem ris_le {xs : List Str} (h : RisN xs) : xs.Pairwise fun a b => ¬ sl b a := h.imp fun h => by
  have h := of_decide_eq_true h
  intro h2
  exact List.lt_irrefl _ (List.lt_trans h2 h)
theorem ris_nd {xs : List Str} (h : RisN xs) : xs.Nodup := h.imp fun h e => by
  subst e
  exact List.lt_irrefl _ (of_decide_eq_true h)
/-- texts sorted -/
theorem sort_strs {xs ys : List Str} (p : ys.Perm xs) (h : RisN ys) : sortL (xs.map D.str) = ys.map D.str :=
  sortL_uniq (p.map D.str) (List.pairwise_map.mpr ((ris_le h).imp fun h => le_str.mpr h)) fun a ha b hb h => by
    obtain ⟨x, _, rfl⟩ := List.mem_map.mp ha
    obtain ⟨y, _, rfl⟩ := List.mem_map.mp hb
    rw [toks_str h]
theorem sorted_strs {xs : List Str} (nd : xs.Nodup) : ∃ ys, ys.Perm xs ∧ RisN ys ∧ sortL (xs.map D.str) = ys.map D.str := by
  obtain ⟨ys, p, e⟩ := sortL_map D.str xs
  have := sortL_pw (xs.map D.str)
  rw [e, List.pairwise_map] at this
  exact ⟨ys, p, ris_of (p.nodup_iff.mpr nd) (this.imp fun h => le_str.mp h), e⟩

theorem namesin_wp {xs : List Str} {m : Nat} {K : Vl × List D → Prop} (h1 : 1 ≤ xs.length) (h2 : xs.length ≤ m) (hm : m ≤ 12) (h : ∀ x ∈ xs, NmL x) (q : K (.im (.tup (xs.map D.str)), [.str (Txt.join Cm xs), .int (m : Int)])) : @WO _ (F_names_in.sem [.str (Txt.join Cm xs), .int (m : Int)]) ⟨K⟩ := by
  have hne : xs ≠ [] := fun e => by rw [e] at h1; simp at h1
  have hnc : ∀ x ∈ xs, 44 ∉ TL.tl x := fun x hx hc => by
    have e1 := (h x hx).lt 44 hc
    have e2 : (44 : Nat) ∉ PD.LT := by decide +kernel
    exact e2 e1
  have hs : splitD [.str (Txt.join Cm xs), .str (Str.ofString ",")] = some (.fr (.lst (xs.map D.str))) := by
    have ha := join_as (n := 6) cm_as (ws := xs) fun x hx => (h x hx).as
    have e := split_sem (y := Cm) tl_cm (by decide +kernel) ha (by omega)
    rw [TL.split_join tl_cm (by decide +kernel) hne hnc] at e
    exact e
  rw [sem_names_in]
  have g1 : (xs.length : Int) ≤ (m : Int) := by omega
  simp_arith [↓hs, List.length_map, g1]
  refine W_comp_mapA D.str (fun _ => .bl true) (fun x hx => ?_) ?_
  · simp_arith
    refine isname_wp (h x hx) ?_
    simp_arith
  simp_arith [List.length_map]
  refine WC_dec (by omega) ?_
  simp_arith [all_tr]
  exact q
/-! a form, what is written, what is read -/
inductive OkI : Str → Str → D → Prop
  | nm {x : Str} : NmL x → OkI (Str.ofString "name") x (.str x)
  | bel {x : Str} : NmL x → OkI (Str.ofString "below") x (.str x)
  | no : OkI (Str.ofString "below") (Str.ofString "-") (.str (Str.ofString ""))
  | num {f : Str} {lo hi n : Nat} : pr_BOUNDS.lookup f = some ((lo : Int), (hi : Int)) → lo ≤ n → n ≤ hi → hi < 1000 → OkI f (strI (n : Int)) (.int (n : Int))
  | own {xs : List Str} : 1 ≤ xs.length → xs.length ≤ 12 → (∀ x ∈ xs, NmL x) → OkI (Str.ofString "owners") (Txt.join Cm xs) (.tup (xs.map D.str))
  | fld {xs : List Str} : 1 ≤ xs.length → xs.length ≤ 8 → (∀ x ∈ xs, NmL x) → RisN xs → OkI (Str.ofString "fields") (Txt.join Cm xs) (.tup (xs.map D.str))
theorem OkI.wr {f w : Str} {d : D} (h : OkI f w d) : Wr d w := by
  cases h with
  | nm h => exact .str ((Wd.nm h).mono (by decide))
  | bel h => exact .str ((Wd.nm h).mono (by decide))
  | no => exact .emp
  | num h1 h2 h3 h4 => exact .num (by omega)
  | own h1 h2 h3 => exact .tup h1 h2 h3
  | fld h1 h2 h3 h4 => exact .tup h1 (by omega) h3
theorem bnd_name : (pr_BOUNDS.lookup (Str.ofString "name")).isSome = false := by decide +kernel
theorem bnd_below : (pr_BOUNDS.lookup (Str.ofString "below")).isSome = false := by decide +kernel
theorem bnd_owners : (pr_BOUNDS.lookup (Str.ofString "owners")).isSome = false := by decide +kernel
theorem bnd_fields : (pr_BOUNDS.lookup (Str.ofString "fields")).isSome = false := by decide +kernel
theorem inP_of {f : Str} {b : Bool} (h : (pr_BOUNDS.lookup f).isSome = b) : inPD pr_BOUNDS [.str f] = some (.im (.bl b)) := by
  show some (Vl.im (.bl (pr_BOUNDS.lookup f).isSome)) = _
  rw [h]
theorem ne_str {a b : Str} (h : decide (a = b) = false) : eqD [.str a, .str b] = some (.im (.bl false)) := by rw [eqD_str, h]
theorem eq_str (a : Str) : eqD [.str a, .str a] = some (.im (.bl true)) := by rw [eqD_str, decide_eq_true rfl]
theorem nm_ne {x : Str} (h : NmL x) {s : Str} (hs : nmB s = false) : decide (x = s) = false := decide_eq_false fun e => by
  subst e
  have : nmB x = true := by
    unfold nmB
    simp only [Bool.and_eq_true, decide_eq_true_eq, List.all_eq_true]
    exact ⟨⟨h.l0, h.l1⟩, h.lt⟩
  rw [this] at hs
  cases hs
theorem thing_wp {f w : Str} {d : D} {K : Vl × List D → Prop} (h : OkI f w d) (q : K (.im d, [.str f, .str w])) : @WO _ (F_thing_in.sem [.str f, .str w]) ⟨K⟩ := by
  rw [sem_thing_in]
  cases h with
  | nm h =>
    have e1 := inP_of bnd_name
    have e2 := ne_str (a := Str.ofString "name") (b := Str.ofString "below") (by decide +kernel)
    have e3 := ne_str (a := Str.ofString "name") (b := Str.ofString "owners") (by decide +kernel)
    have e4 := ne_str (a := Str.ofString "name") (b := Str.ofString "fields") (by decide +kernel)
    simp_arith [↓e1, ↓e2, ↓e3, ↓e4]
    refine isname_wp h ?_
    simp_arith
    exact q
  | bel h =>
    have e1 := inP_of bnd_below
    have e2 := eq_str (Str.ofString "below")
    have e5 := ne_str (nm_ne h (s := Str.ofString "-") (by decide +kernel))
    have e3 := ne_str (a := Str.ofString "below") (b := Str.ofString "owners") (by decide +kernel)
    have e4 := ne_str (a := Str.ofString "below") (b := Str.ofString "fields") (by decide +kernel)
    simp_arith [↓e1, ↓e2, ↓e3, ↓e4, ↓e5]
    refine isname_wp h ?_
    simp_arith
    exact q
  | no =>
    have e1 := inP_of bnd_below
    have e2 := eq_str (Str.ofString "below")
    have e5 := eq_str (Str.ofString "-")
    simp_arith [↓e1, ↓e2, ↓e5]
    exact q
  | num h1 h2 h3 h4 =>
    have e1 := inP_of (f := f) (b := true) (by rw [h1]; rfl)
    have e2 := bix_lo h1
    have e3 := bix_hi h1
    simp_arith [↓e1, ↓e2, ↓e3]
    refine numin_wp h2 h3 h4 ?_
    simp_arith
    exact q
  | own h1 h2 h3 =>
    have e1 := inP_of bnd_owners
    have e2 := ne_str (a := Str.ofString "owners") (b := Str.ofString "below") (by decide +kernel)
    have e3 := eq_str (Str.ofString "owners")
    simp_arith [↓e1, ↓e2, ↓e3]
    refine namesin_wp (m := 12) h1 h2 (by omega) h3 ?_
    simp_arith
    exact q
  | @fld xs h1 h2 h3 h4 =>
    have e1 := inP_of bnd_fields
    have e2 := ne_str (a := Str.ofString "fields") (b := Str.ofString "below") (by decide +kernel)
    have e3 := ne_str (a := Str.ofString "fields") (b := Str.ofString "owners") (by decide +kernel)
    have e4 := eq_str (Str.ofString "fields")
    simp_arith [↓e1, ↓e2, ↓e3, ↓e4]
    refine namesin_wp (m := 8) h1 h2 (by omega) h3 ?_
    have e5 : isnD [.tup (xs.map D.str), .non] = some (.im (.bl true)) := rfl
    simp_arith [↓e5]
    refine risingT_wp (by omega) h4 ?_
    simp_arith
    exact q
theorem okI_has {f w : Str} {d : D} (h : OkI f w d) : Has (.un (.str 6) (.un (.int 0 999) (.tv (.str 6) 12))) d := by
  have e0 : As 6 (Str.ofString "") := ⟨by decide +kernel, by decide +kernel⟩
  cases h with
  | nm h => exact .inl ⟨_, rfl, h.as⟩
  | bel h => exact .inl ⟨_, rfl, h.as⟩
  | no => exact .inl ⟨_, rfl, e0⟩
  | num h1 h2 h3 h4 => exact .inr (.inl ⟨_, rfl, by omega, by omega⟩)
  | own h1 h2 h3 => exact .inr (.inr ⟨_, rfl, by rw [List.length_map]; exact h2, fun e he => by
      obtain ⟨x, hx, rfl⟩ := List.mem_map.mp he
      exact ⟨x, rfl, (h3 x hx).as⟩⟩)
  | fld h1 h2 h3 h4 => exact .inr (.inr ⟨_, rfl, by rw [List.length_map]; omega, fun e he => by
      obtain ⟨x, hx, rfl⟩ := List.mem_map.mp he
      exact ⟨x, rfl, (h3 x hx).as⟩⟩)
theorem eqB_non {f w : Str} {d : D} (h : OkI f w d) : eqB d .non = false := by
  cases h <;> rfl
theorem read_wp {text w : Str} {ts : List (Str × Str × D)} {K : Vl × List D → Prop} (hA : As 2000 text) (hw : Wd 7 w) (ht : wsp text = w :: ts.map fun t => t.2.1) (hf : tb_FORMS.lookup w = some (ts.map fun t => t.1)) (hk : w ∈ ky_FORMS)
    (hl : ts.length ≤ 7) (hi : ∀ t ∈ ts, OkI t.1 t.2.1 t.2.2) (hm : ∀ K' : Vl × List D → Prop, K' (.im (.bl true), [.tup (.str w :: ts.map fun t => t.2.2)]) → @WO _ (F_may_be.sem [.tup (.str w :: ts.map fun t => t.2.2)]) ⟨K'⟩)
    (q : K (.im (.tup (.str w :: ts.map fun t => t.2.2)), [.str text])) : @WO _ (F_read_row.sem [.str text]) ⟨K⟩ := by
  have hs := split_sem (y := Sp) tl_sp (by decide +kernel) hA (by omega)
  have hn := split_num (x := text) (y := Sp) tl_sp (by decide +kernel) hA.1
  rw [sem_read_row]
  simp_arith [↓hs]
  refine W_comp_fltA D.str (fun y => !decide (y = Str.ofString "")) (fun y => .str y) (fun y hy => ?_) ?_
  · cases he : decide (y = Str.ofString "") with
    | true => simp_arith [neD_str, he]
    | false => simp_arith [neD_str, he]
  have hwsp : (Txt.split text Sp).filter (fun y => !decide (y = Str.ofString "")) = w :: ts.map fun t => t.2.1 := ht
  have hmm : ((Txt.split text Sp).filter (fun y => !decide (y = Str.ofString ""))).map (fun y => D.str y) = .str w :: ts.map fun t => .str t.2.1 := by
    rw [hwsp, List.map_cons, List.map_map]
    rfl
  rw [hmm]
  have hnl : (D.str w :: ts.map fun t => D.str t.2.1).length ≤ 8 := by
    rw [List.length_cons, List.length_map]
    omega
  refine WC_mk (small_lit (by omega)) ?_
  have e0 : eqD [.lst (.str w :: ts.map fun t => .str t.2.1), .lst []] = some (.im (.bl false)) := by
    have := eqD_nilL (t := .str 100) (ds := .str w :: ts.map fun t => .str t.2.1) (fun d hd => by
      rcases List.mem_cons.mp hd with rfl | hd
      · exact ⟨_, rfl, hw.as.mono (by decide)⟩
      · obtain ⟨t, ht, rfl⟩ := List.mem_map.mp hd
        exact ⟨_, rfl, (hi t ht).wr.wd.as⟩) (by decide)
    exact this
  have e1 := cget_in hk
  have e2 := lenC_at hf
  have e3 : isD [.cl w, .non] = some (.im (.bl false)) := rfl
  have e5 : ((ts.length + 1 : Nat) : Int) - 1 = (ts.length : Int) := by omega
  have hz := zipCO_cl hf (ts.map fun t => D.str t.2.1)
  have hz2 : ∀ l : List (Str × Str × D), zipD ((l.map fun t => t.1).map D.str) (l.map fun t => D.str t.2.1) = l.map fun t => .tup [.str t.1, .str t.2.1] := fun l => by
    induction l with
    | nil => rfl
    | cons a r ih =>
      show D.tup [.str a.1, .str a.2.1] :: zipD ((r.map fun t => t.1).map D.str) (r.map fun t => D.str t.2.1) = _
      rw [ih]
      rfl
  rw [hz2] at hz
  have hcut : cutD (D.str w :: ts.map fun t => D.str t.2.1) (some 1) none = ts.map fun t => D.str t.2.1 := cut_drop _ 1
  simp_arith [↓e0, ↓e1, ↓e2, ↓e3, List.length_map, e5, neD_int, hcut, ↓hz]
  refine W_comp_mapA (fun t : Str × Str × D => .tup [.str t.1, .str t.2.1]) (fun t => t.2.2) (fun t ht => ?_) ?_
  · simp_arith
    refine thing_wp (hi t ht) ?_
    simp_arith
  simp_arith [List.length_map]
  refine WC_dec (by omega) ?_
  simp_arith [List.length_map]
  refine WO_ifd (by omega) ?_
  have hni : inTD [.non, .tup (.str w :: ts.map fun t => t.2.2)] = some (.im (.bl false)) := by
    rw [inTD_has (t := .non) (u := .un (.str 7) (.un (.str 6) (.un (.int 0 999) (.tv (.str 6) 12)))) rfl (fun d hd => ?_) (by decide) (by decide)]
    · refine congrArg (fun b => some (Vl.im (.bl b))) ?_
      rw [List.any_eq_false]
      intro d hd
      rcases List.mem_cons.mp hd with rfl | hd
      · exact (by decide : ¬ (false = true))
      · obtain ⟨t, ht, rfl⟩ := List.mem_map.mp hd
        rw [eqB_non (hi t ht)]
        decide
    · rcases List.mem_cons.mp hd with rfl | hd
      · exact .inl ⟨_, rfl, hw.as⟩
      · obtain ⟨t, ht, rfl⟩ := List.mem_map.mp hd
        exact .inr (okI_has (hi t ht))
  simp_arith [↓hni]
  refine hm _ ?_
  simp_arith
  exact q
end L_k75
namespace L_k75
open PySem PySem.Spec PyProof.Rows L2 PD
local macro_rules | `(tactic| simp_arith [$xs,*]) => `(tactic| try simp only [↓W_eDispT, ↓W_eLkT, ↓WV_nSetS, ↓WV_nRet, ↓WVT_nNin, ↓WV_nAhPut, ↓WV_nPut, ↓WV_nAug, ↓WV_nSetd, ↓WV_nBes, ↓WO_cW, ↓WV_nCallW, ↓WV_nSetW, ↓W_eMethN, ↓W_eMethS, ↓W_eNW, ↓W_eNB, ↓WV_nNil, ↓WV_nSeq, ↓WV_nIf, ↓WVT_nTst, ↓WVT_nAndT, ↓WV_nLift, ↓WV_nFrz, ↓WV_nFor, ↓W_ckB, ↓W_eCallR, ↓W_eCallB, ↓W_eFT, ↓W_eFS, ↓W_eP1, ↓W_sExpB, ↓W_sRetB, ↓W_sSetB, ↓W_sRetZ, ↓W_sKeep, ↓W_sSea, ↓W_sPop, ↓W_eOpB, ↓W_mNew, ↓W_sNewB, ↓W_sNewP, ↓WO_runR, ↓WO_runB, ↓W_eDisp, ↓W_qN, ↓W_qA, ↓W_qJs, ↓W_qJi, ↓W_rt, ↓W_bd, ↓W_eC, ↓W_eV, ↓W_cN, ↓W_cA, ↓W_eP, ↓W_eM, ↓W_eMf, ↓W_ckF, ↓W_ckT, ↓W_eU, ↓W_eUC, ↓W_eTup, ↓W_eLst, ↓W_eDk, ↓W_eDt, ↓W_mB, ↓W_mT, ↓W_mNot, ↓W_mAnd, ↓W_mOr, ↓W_eNot, ↓W_eAnd, ↓W_eOr, ↓W_eIf, ↓W_eTmp, ↓W_eTmpA, ↓W_cNn, ↓W_cAn, ↓W_eTmpL, ↓W_mTmp, ↓W_oN, ↓W_oS, ↓W_eSl, ↓W_eChain, ↓W_sNil, ↓W_sPass, ↓W_sBrk, ↓W_sCnt, ↓W_sRetN, ↓W_sSeq, ↓W_sExp, ↓W_sRet, ↓W_sIf, ↓W_sAsg, ↓W_gsN, ↓W_gsC, ↓W_gT, ↓W_gTl, ↓W_gS, ↓W_sRaise0, ↓W_sRaise1, ↓W_sTryK, ↓W_sCallX, ↓W_hb_im, ↓W_hb_fr, ↓W_hb_bo, ↓W_sPF, ↓W_sPF3, ↓W_sPF4, ↓W_gN_im, ↓W_gN_fr, ↓W_gN_bo, ↓W_frz_im, ↓W_frz_fr, ↓W_frz_bo, ↓W_frzs_nil, ↓W_frzs_cons, ↓W_frzA_nil, ↓W_frzA_t, ↓W_frzA_im, ↓W_frzA_bo, ↓W_callE, ↓W_eCallN, ↓W_eCallF, ↓WO_runF, ↓W_mR1, ↓W_mR2, ↓W_mR3, ↓W_eRev, ↓W_eRev2, ↓W_eRev7, ↓W_eFrz, ↓W_eGetZ, ↓W_eKf, ↓W_eLk, ↓W_mLst, ↓W_mLz, ↓W_mTup, ↓W_mEnum, ↓W_mEnumT, ↓W_mStr, ↓W_mDk, ↓W_mZip, ↓W_sFor, ↓W_sWhl, ↓W_eComp, ↓W_eTupB, ↓W_sAug, ↓W_sAugS, ↓W_eTmpD, ↓W_eTmpU, ↓W_sLkS, ↓W_mDi, ↓W_mZipM, ↓Rw_to4, ↓Rw_from4, ↓W_gT_Fld, ↓W_gT_Gt, ↓W_gT_Lt, ↓W_gT_bD, ↓W_gT_Dn, ↓W_gT_Rw, ↓Fld_i0, ↓Fld_i1, ↓Fld_i2, ↓Fld_i3, ↓Fld_i4, ↓Gt_i0, ↓Gt_i1, ↓Gt_i2, ↓Gt_i3, ↓Lt_i0, ↓Lt_i1, ↓Lt_i2, ↓bD_i0, ↓bD_i1, ↓Dn_i0, ↓Dn_i1, ↓Dn_i2, ↓Dn_i3, ↓Rw_i0, ↓Rw_i1, ↓Rw_i2, ↓Rw_i3, ↓Rw_i4, ↓Rw_i5, ↓Rw_i6, ↓Ter_i0, ↓Ter_i1, imsV_nil, imsV_cons, okSl_im, okSl_em, okSl_ow, nd1_im, kd1_im, int1_im, kv1_im, isNs_nt, noBo, nxV_nx, isEm_em, isNt_nt, thE_nil, thE_cons, isIm_im, isIm_em, isIm_ow, slNm_em, slNm_im, slNm_ow, nm_nd, nodeD_nd, keyW_nd, bkO, bkNO, setBk_nil, setBk_cons, setBk_em, setBk_im, setBk_ow, setBk_io, setBk_bk, insB0, insB1, insB2, insB3, isBk_bk, BkS.nm, Vl.nmB, FnN_sig, Fk_sem, Fk_sig, exV_im, exV_ex, exOf_ex, exOf_nx, tyF, frK_fr, nxK_nx, lstLF, atomV, WO_map, WO_some, WO_none, WB_true, WB_false, WC_true, goes_nx, goes_ct, goes_bk, goes_rt, cut_nx, cut_bk, cut_ct, cut_rt, List.eraseIdx_cons_zero, List.eraseIdx_cons_succ, puts_nil, puts_cons, List.getElem?_cons_zero, List.getElem?_cons_succ, setO, frzO_eq, Option.map_some, putO, putC, List.set_cons_zero, List.set_cons_succ, mutAtD, only, dropM, mutL, PD.cnts, PD.cnt, Vl.hold, tyT, beq_self_eq_true, small_eq, lessL_eq, decide_true, decide_false, List.length_cons, List.length_nil, mkE, List.replicate_succ, List.replicate_zero, List.cons_append, List.nil_append, outE, retV, ioAll, ioIx, brIx, mutAt, updE, disj, nmOut, Vl.nm, D.nm, D.nmC, nms, Sl.mut, Sl.frz, D.atom, List.map_cons, List.map_nil, wipeE, unwipe, calm_em, calm_im, calm_none, List.all_cons, List.all_nil, Bool.and_true, Bool.true_and, Bool.and_self, Bool.or_true, Bool.or_self, Bool.true_or, Bool.false_or, Bool.or_false, Bool.not_true, Bool.not_false, Bool.and_false, Bool.false_and, List.isEmpty_nil, List.isEmpty_cons, List.nodup_cons, List.nodup_nil, List.not_mem_nil, not_false_eq_true, and_self, List.contains_nil, if_true, if_false, Bool.false_eq_true, ite_true, ite_false, rg1, rg2, rg3_10, revLD, rev2D, rev7D, addND, subND, seqL, seqZ, seqT, zipO, addD, subD, mulD, mulTD, divD, modD, powD, negD, ltD, leD, gtD, geD, lenD, absD, minD, maxD, PD.intD, ixD, isnD, appendD, reverseD, extendD, slD, setD, listD, tupleD, tupleBD, truD, at0, at1, at2, at3, at4, at5, at6, at7, sd0, sd1, sd2, sd3, ixN, Int.cast_ofNat_Int, Int.reduceEq, Int.reduceNe, Int.reduceLT, Int.reduceLE, Int.reduceNeg, Int.reduceAdd, Int.reduceSub, Int.reduceMul, Int.reducePow, Nat.reducePow, Int.reduceToNat, Int.reduceAbs, ne_eq, not_true_eq_false, Nat.zero_add, Nat.add_zero, Nat.reduceAdd, Nat.reduceSub, Nat.reduceLT, Nat.reduceLeDiff, Nat.reduceEqDiff, Nat.reduceMul, i63_0, i63_1, zipMO_lt, zipMO_tl, zipMO_ll, List.flatten_cons, List.flatten_nil, Nat.lt_irrefl, reduceCtorEq, Nat.zero_lt_succ, Nat.reduceSubDiff, Nat.sub_zero, Nat.sub_self, Bool.not_eq_true, Bool.not_eq_false, b__law_box, b__law_take, ce__law_words_1, cp__law_words_1, ce__law_words_2, cp__law_words_2, ce__law_words_3, cp__law_words_3, fl__law_words_4, b__law_words, fl__law_text_1, b__law_text, fl__law_row_1, ce__law_row_2, cp__law_row_2, b__law_row, fl__law_loose_1, b__law_loose, ce__law_same_1, cp__law_same_1, b__law_same, ce_number_in_1, cp_number_in_1, b_number_in, ce_is_name_1, cp_is_name_1, b_is_name, ce_names_in_1, cp_names_in_1, b_names_in, ce_are_rising_1, cp_are_rising_1, b_are_rising, b_thing_in, b_may_be, ce_read_row_1, cp_read_row_1, ce_read_row_2, cp_read_row_2, b_read_row, fl_law_1, fl_law_2, fl_law_3, b_law, sig__law_box, sig__law_take, sig__law_words, sig__law_text, sig__law_row, sig__law_loose, sig_number_in, sig_is_name, sig_names_in, sig_are_rising, sig_thing_in, sig_may_be, sig_read_row, sig_law, ↓W_mZipC, $xs,*])
local macro_rules | `(tactic| simp_arith) => `(tactic| simp_arith [W_cN])
/-! words written out, side by side -/
theorem ofS_inj {a b : String} (h : Str.ofString a = Str.ofString b) : a = b := by
  rw [Str.ofString_eq_toList, Str.ofString_eq_toList] at h
  have h1 : (a.toList.map Char.toNat) = b.toList.map Char.toNat := by
    have := congrArg (fun s : Str => s.cps.toList) h
    simpa using this
  have h2 : a.toList = b.toList := by
    have inj : ∀ {l m : List Char}, l.map Char.toNat = m.map Char.toNat → l = m := by
      intro l
      induction l with
      | nil =>
        intro m h
        cases m with
        | nil => rfl
        | cons _ _ => cases h
      | cons c r ih =>
        intro m h
        cases m with
        | nil => cases h
        | cons d q =>
          rw [List.map_cons, List.map_cons] at h
          obtain ⟨e1, e2⟩ := List.cons.inj h
          rw [ih e2, Char.toNat_inj.mp e1]
    exact inj h1
  exact String.toList_injective h2
theorem ofS_dec (a b : String) : decide (Str.ofString a = Str.ofString b) = decide (a = b) := by
  by_cases h : a = b
  · rw [h, decide_eq_true rfl, decide_eq_true rfl]
  · rw [decide_eq_false h, decide_eq_false fun e => h (ofS_inj e)]
theorem eqL (a b : String) : eqD [.str (Str.ofString a), .str (Str.ofString b)] = some (.im (.bl (decide (a = b)))) := by rw [eqD_str, ofS_dec]
theorem inL2 (a b c : String) : inD [.str (Str.ofString a), .tup [.str (Str.ofString b), .str (Str.ofString c)]] = some (.im (.bl (decide (a = b) || decide (a = c)))) := by
  have h := inD_strsT (Str.ofString a) [Str.ofString b, Str.ofString c]
  refine h.trans (congrArg (fun b => some (Vl.im (.bl b))) ?_)
  rw [← ofS_dec, ← ofS_dec]
  simp
theorem inL4 (a b c d e : String) : inD [.str (Str.ofString a), .tup [.str (Str.ofString b), .str (Str.ofString c), .str (Str.ofString d), .str (Str.ofString e)]] = some (.im (.bl (decide (a = b) || decide (a = c) || decide (a = d) || decide (a = e)))) := by
  have h := inD_strsT (Str.ofString a) [Str.ofString b, Str.ofString c, Str.ofString d, Str.ofString e]
  refine h.trans (congrArg (fun b => some (Vl.im (.bl b))) ?_)
  rw [← ofS_dec, ← ofS_dec, ← ofS_dec, ← ofS_dec]
  simp [Bool.or_assoc]
/-! two numbers, sorted -/
theorem sort2 (a b : Nat) : ∃ c d : Nat, c ≤ d ∧ (c = a ∨ c = b) ∧ (d = a ∨ d = b) ∧ sortedD [.lst [.int (a : Int), .int (b : Int)]] = some (.fr (.lst [.int (c : Int), .int (d : Int)])) := by
  have hle : ∀ x y : Nat, PySem.W.dataLe false D.py (.int (x : Int)) (.int (y : Int)) = true → x ≤ y := fun x y h => by
    have h : (!PySem.W.dataLt (.int (y : Int)) (.int (x : Int))) = true := h
    rw [PySem.W.dataLt_int] at h
    simp at h
    omega
  have hs := sort_ok (t := .int 0 ((max a b : Nat) : Int)) (ds := [.int (a : Int), .int (b : Int)]) (fun d hd => by
      rcases List.mem_cons.mp hd with rfl | hd
      · exact ⟨_, rfl, by omega, by omega⟩
      · rw [List.mem_singleton.mp hd]
        exact ⟨_, rfl, by omega, by omega⟩) rfl (Nat.zero_le 50) rfl (by simp)
  obtain ⟨m, pm, e⟩ := sortL_map (fun n : Nat => D.int (n : Int)) [a, b]
  have e : sortL [.int (a : Int), .int (b : Int)] = m.map fun n : Nat => D.int (n : Int) := e
  have pw := sortL_pw [.int (a : Int), .int (b : Int)]
  rw [hs, e]
  rw [e] at pw
  have hl : m.length = 2 := pm.length_eq
  match m, hl, pm, pw with
  | [c, d], _, pm, pw =>
    refine ⟨c, d, hle c d ((List.pairwise_cons.mp pw).1 _ (by simp)), ?_, ?_, rfl⟩
    · have := pm.mem_iff.mp (show c ∈ [c, d] by simp)
      simpa using this
    · have := pm.mem_iff.mp (show d ∈ [c, d] by simp)
      simpa using this
end L_k75
namespace L_k75
open PySem PySem.Spec PyProof.Rows L2 PD
local macro_rules | `(tactic| simp_arith [$xs,*]) => `(tactic| try simp only [↓W_eDispT, ↓W_eLkT, ↓WV_nSetS, ↓WV_nRet, ↓WVT_nNin, ↓WV_nAhPut, ↓WV_nPut, ↓WV_nAug, ↓WV_nSetd, ↓WV_nBes, ↓WO_cW, ↓WV_nCallW, ↓WV_nSetW, ↓W_eMethN, ↓W_eMethS, ↓W_eNW, ↓W_eNB, ↓WV_nNil, ↓WV_nSeq, ↓WV_nIf, ↓WVT_nTst, ↓WVT_nAndT, ↓WV_nLift, ↓WV_nFrz, ↓WV_nFor, ↓W_ckB, ↓W_eCallR, ↓W_eCallB, ↓W_eFT, ↓W_eFS, ↓W_eP1, ↓W_sExpB, ↓W_sRetB, ↓W_sSetB, ↓W_sRetZ, ↓W_sKeep, ↓W_sSea, ↓W_sPop, ↓W_eOpB, ↓W_mNew, ↓W_sNewB, ↓W_sNewP, ↓WO_runR, ↓WO_runB, ↓W_eDisp, ↓W_qN, ↓W_qA, ↓W_qJs, ↓W_qJi, ↓W_rt, ↓W_bd, ↓W_eC, ↓W_eV, ↓W_cN, ↓W_cA, ↓W_eP, ↓W_eM, ↓W_eMf, ↓W_ckF, ↓W_ckT, ↓W_eU, ↓W_eUC, ↓W_eTup, ↓W_eLst, ↓W_eDk, ↓W_eDt, ↓W_mB, ↓W_mT, ↓W_mNot, ↓W_mAnd, ↓W_mOr, ↓W_eNot, ↓W_eAnd, ↓W_eOr, ↓W_eIf, ↓W_eTmp, ↓W_eTmpA, ↓W_cNn, ↓W_cAn, ↓W_eTmpL, ↓W_mTmp, ↓W_oN, ↓W_oS, ↓W_eSl, ↓W_eChain, ↓W_sNil, ↓W_sPass, ↓W_sBrk, ↓W_sCnt, ↓W_sRetN, ↓W_sSeq, ↓W_sExp, ↓W_sRet, ↓W_sIf, ↓W_sAsg, ↓W_gsN, ↓W_gsC, ↓W_gT, ↓W_gTl, ↓W_gS, ↓W_sRaise0, ↓W_sRaise1, ↓W_sTryK, ↓W_sCallX, ↓W_hb_im, ↓W_hb_fr, ↓W_hb_bo, ↓W_sPF, ↓W_sPF3, ↓W_sPF4, ↓W_gN_im, ↓W_gN_fr, ↓W_gN_bo, ↓W_frz_im, ↓W_frz_fr, ↓W_frz_bo, ↓W_frzs_nil, ↓W_frzs_cons, ↓W_frzA_nil, ↓W_frzA_t, ↓W_frzA_im, ↓W_frzA_bo, ↓W_callE, ↓W_eCallN, ↓W_eCallF, ↓WO_runF, ↓W_mR1, ↓W_mR2, ↓W_mR3, ↓W_eRev, ↓W_eRev2, ↓W_eRev7, ↓W_eFrz, ↓W_eGetZ, ↓W_eKf, ↓W_eLk, ↓W_mLst, ↓W_mLz, ↓W_mTup, ↓W_mEnum, ↓W_mEnumT, ↓W_mStr, ↓W_mDk, ↓W_mZip, ↓W_sFor, ↓W_sWhl, ↓W_eComp, ↓W_eTupB, ↓W_sAug, ↓W_sAugS, ↓W_eTmpD, ↓W_eTmpU, ↓W_sLkS, ↓W_mDi, ↓W_mZipM, ↓Rw_to4, ↓Rw_from4, ↓W_gT_Fld, ↓W_gT_Gt, ↓W_gT_Lt, ↓W_gT_bD, ↓W_gT_Dn, ↓W_gT_Rw, ↓Fld_i0, ↓Fld_i1, ↓Fld_i2, ↓Fld_i3, ↓Fld_i4, ↓Gt_i0, ↓Gt_i1, ↓Gt_i2, ↓Gt_i3, ↓Lt_i0, ↓Lt_i1, ↓Lt_i2, ↓bD_i0, ↓bD_i1, ↓Dn_i0, ↓Dn_i1, ↓Dn_i2, ↓Dn_i3, ↓Rw_i0, ↓Rw_i1, ↓Rw_i2, ↓Rw_i3, ↓Rw_i4, ↓Rw_i5, ↓Rw_i6, ↓Ter_i0, ↓Ter_i1, imsV_nil, imsV_cons, okSl_im, okSl_em, okSl_ow, nd1_im, kd1_im, int1_im, kv1_im, isNs_nt, noBo, nxV_nx, isEm_em, isNt_nt, thE_nil, thE_cons, isIm_im, isIm_em, isIm_ow, slNm_em, slNm_im, slNm_ow, nm_nd, nodeD_nd, keyW_nd, bkO, bkNO, setBk_nil, setBk_cons, setBk_em, setBk_im, setBk_ow, setBk_io, setBk_bk, insB0, insB1, insB2, insB3, isBk_bk, BkS.nm, Vl.nmB, FnN_sig, Fk_sem, Fk_sig, exV_im, exV_ex, exOf_ex, exOf_nx, tyF, frK_fr, nxK_nx, lstLF, atomV, WO_map, WO_some, WO_none, WB_true, WB_false, WC_true, goes_nx, goes_ct, goes_bk, goes_rt, cut_nx, cut_bk, cut_ct, cut_rt, List.eraseIdx_cons_zero, List.eraseIdx_cons_succ, puts_nil, puts_cons, List.getElem?_cons_zero, List.getElem?_cons_succ, setO, frzO_eq, Option.map_some, putO, putC, List.set_cons_zero, List.set_cons_succ, mutAtD, only, dropM, mutL, PD.cnts, PD.cnt, Vl.hold, tyT, beq_self_eq_true, small_eq, lessL_eq, decide_true, decide_false, List.length_cons, List.length_nil, mkE, List.replicate_succ, List.replicate_zero, List.cons_append, List.nil_append, outE, retV, ioAll, ioIx, brIx, mutAt, updE, disj, nmOut, Vl.nm, D.nm, D.nmC, nms, Sl.mut, Sl.frz, D.atom, List.map_cons, List.map_nil, wipeE, unwipe, calm_em, calm_im, calm_none, List.all_cons, List.all_nil, Bool.and_true, Bool.true_and, Bool.and_self, Bool.or_true, Bool.or_self, Bool.true_or, Bool.false_or, Bool.or_false, Bool.not_true, Bool.not_false, Bool.and_false, Bool.false_and, List.isEmpty_nil, List.isEmpty_cons, List.nodup_cons, List.nodup_nil, List.not_mem_nil, not_false_eq_true, and_self, List.contains_nil, if_true, if_false, Bool.false_eq_true, ite_true, ite_false, rg1, rg2, rg3_10, revLD, rev2D, rev7D, addND, subND, seqL, seqZ, seqT, zipO, addD, subD, mulD, mulTD, divD, modD, powD, negD, ltD, leD, gtD, geD, lenD, absD, minD, maxD, PD.intD, ixD, isnD, appendD, reverseD, extendD, slD, setD, listD, tupleD, tupleBD, truD, at0, at1, at2, at3, at4, at5, at6, at7, sd0, sd1, sd2, sd3, ixN, Int.cast_ofNat_Int, Int.reduceEq, Int.reduceNe, Int.reduceLT, Int.reduceLE, Int.reduceNeg, Int.reduceAdd, Int.reduceSub, Int.reduceMul, Int.reducePow, Nat.reducePow, Int.reduceToNat, Int.reduceAbs, ne_eq, not_true_eq_false, Nat.zero_add, Nat.add_zero, Nat.reduceAdd, Nat.reduceSub, Nat.reduceLT, Nat.reduceLeDiff, Nat.reduceEqDiff, Nat.reduceMul, i63_0, i63_1, zipMO_lt, zipMO_tl, zipMO_ll, List.flatten_cons, List.flatten_nil, Nat.lt_irrefl, reduceCtorEq, Nat.zero_lt_succ, Nat.reduceSubDiff, Nat.sub_zero, Nat.sub_self, Bool.not_eq_true, Bool.not_eq_false, sig__law_take, sig__law_text, cp__law_row_2, ce__law_row_2, fl__law_row_1, $xs,*])
local macro_rules | `(tactic| simp_arith) => `(tactic| simp_arith [W_cN])
/-! a row: its word, and of each thing its form, what is written, what is read -/
structure RowOk (w : Str) (ts : List (Str × Str × D)) : Prop where
  nm : Wd 7 w
  hf : tb_FORMS.lookup w = some (ts.map fun t => t.1)
  hk : w ∈ ky_FORMS
  hl : ts.length ≤ 7
  hi : ∀ t ∈ ts, OkI t.1 t.2.1 t.2.2
  hm : ∀ K' : Vl × List D → Prop, K' (.im (.bl true), [.tup (.str w :: ts.map fun t => t.2.2)]) → @WO _ (F_may_be.sem [.tup (.str w :: ts.map fun t => t.2.2)]) ⟨K'⟩
/-- what is drawn ahead of a row -/
structure Drw (xs : List Str) (a b t1 t2 : Str) (third day e0 e1 water sky : Nat) : Prop where
  ha : a ∈ xs
  hb : b ∈ xs
  h1 : xs[third]? = some t1
  h2 : t2 ∈ xs
  ne : t1 ≠ t2
  hd : day ≤ 39
  he : e0 ≤ e1
  he1 : e1 ≤ 39
  w0 : 1 ≤ water
  w1 : water ≤ 999
  hs : sky ≤ 99
theorem two_of {xs : List Str} {i j : Nat} {x y : Str} (nd : xs.Nodup) (hx : xs[i]? = some x) (hy : xs[j]? = some y) (h : i ≠ j) : x ≠ y := fun e => by
  subst e
  obtain ⟨h1, e1⟩ := List.getElem?_eq_some_iff.mp hx
  obtain ⟨h2, e2⟩ := List.getElem?_eq_some_iff.mp hy
  exact h ((List.getElem_inj nd).mp (e1.trans e2.symm))
def WS : List String := ["field", "gate", "begin", "rain", "sun", "lend", "let", "shut", "wet", "dry", "nowet", "nodry", "breach", "mend", "undo", "stands", "rows", "holder", "owing", "payback", "fault", "plan", "drowns", "lost"]
theorem ws_wd : ∀ s ∈ WS, Wd 7 (Str.ofString s) := fun s hs => by
  have h : WS.all (fun s => decide (1 ≤ (Str.ofString s).length) && decide ((Str.ofString s).length ≤ 7) && ((Str.ofString s).cps.toList.all fun c => decide (c < 128 ∧ c ≠ 32))) = true := by decide +kernel
  have h := List.all_eq_true.mp h s hs
  simp only [Bool.and_eq_true, decide_eq_true_eq, List.all_eq_true] at h
  exact ⟨⟨h.1.2, fun c hc => (h.2 c hc).1⟩, h.1.1, fun hc => (h.2 32 hc).2 rfl⟩
theorem ws_ky : ∀ s ∈ WS, Str.ofString s ∈ ky_FORMS := fun s hs => by
  have h : WS.all (fun s => decide (Str.ofString s ∈ ky_FORMS)) = true := by decide +kernel
  exact of_decide_eq_true (List.all_eq_true.mp h s hs)
theorem bd_day : pr_BOUNDS.lookup (Str.ofString "day") = some (((0 : Nat) : Int), ((39 : Nat) : Int)) := by decide +kernel
theorem bd_water : pr_BOUNDS.lookup (Str.ofString "water") = some (((1 : Nat) : Int), ((999 : Nat) : Int)) := by decide +kernel
theorem bd_sky : pr_BOUNDS.lookup (Str.ofString "sky") = some (((0 : Nat) : Int), ((99 : Nat) : Int)) := by decide +kernel
theorem bd_level : pr_BOUNDS.lookup (Str.ofString "level") = some (((0 : Nat) : Int), ((998 : Nat) : Int)) := by decide +kernel
theorem ok_day {n : Nat} (h : n ≤ 39) : OkI (Str.ofString "day") (strI (n : Int)) (.int (n : Int)) := .num bd_day (Nat.zero_le _) h (by decide)
theorem ok_water {n : Nat} (h0 : 1 ≤ n) (h : n ≤ 999) : OkI (Str.ofString "water") (strI (n : Int)) (.int (n : Int)) := .num bd_water h0 h (by decide)
theorem ok_sky {n : Nat} (h : n ≤ 99) : OkI (Str.ofString "sky") (strI (n : Int)) (.int (n : Int)) := .num bd_sky (Nat.zero_le _) h (by decide)
theorem ok_level {n : Nat} (h : n ≤ 998) : OkI (Str.ofString "level") (strI (n : Int)) (.int (n : Int)) := .num bd_level (Nat.zero_le _) h (by decide)
theorem ok_all0 {P : Str × Str × D → Prop} : ∀ t ∈ ([] : List (Str × Str × D)), P t := fun _ h => by cases h
theorem ok_allc {P : Str × Str × D → Prop} {t : Str × Str × D} {ts : List (Str × Str × D)} (h : P t) (h' : ∀ t ∈ ts, P t) : ∀ x ∈ t :: ts, P x := fun x hx => by
  rcases List.mem_cons.mp hx with rfl | hx
  · exact h
  · exact h' x hx
theorem cutD_m1 {α : Type} {l : List α} (h : 1 ≤ l.length) : PD.cutD l none (some (-1)) = l.take (l.length - 1) := by
  unfold PD.cutD
  have e1 : HT.sIx l.length 0 none = 0 := rfl
  have e2 : HT.sIx l.length l.length (some (-1)) = l.length - 1 := by
    show (if (-1 : Int) < 0 then ((-1 : Int) + (l.length : Int)).toNat else min (-1 : Int).toNat l.length) = _
    rw [if_pos (by decide)]
    omega
  rw [e1, e2]
  rfl
theorem row_wp {n : Nat} {l : D} {xs : List Str} {w : Str} {K : Vl × List D → Prop} (h : Lf n l) (hn : n < 2 ^ 20) (hx : xs.length = 9) (nd : xs.Nodup) (hy : ∀ x ∈ xs, NmL x) (hw : ∃ s ∈ WS, w = Str.ofString s)
    (q : ∀ ts l', RowOk w ts → Lf (n + 60) l' → K (.im (.tup (.str w :: ts.map fun t => t.2.2)), [l', .lst (xs.map D.str), .str w])) : @WO _ (F__law_row.sem [l, .lst (xs.map D.str), .str w]) ⟨K⟩ := by
  rw [sem__law_row]
  simp_arith
  rw [b__law_row]
  refine W_cut4 (fun e0 e' => ∃ a b t1 t2 third day e2 e3 water sky l', Drw xs a b t1 t2 third day e2 e3 water sky ∧ Lf (n + 20) l' ∧ e' = puts e0 [(0, .io 0 l'), (3, .im (.str a)), (4, .im (.str b)), (5, .im (.int (third : Int))), (6, .ow (.lst [.str t1, .str t2])), (7, .im (.int (day : Int))), (8, .ow (.lst [.int (e2 : Int), .int (e3 : Int)])), (9, .im (.int (water : Int))), (10, .im (.int (sky : Int)))]) ?_ ?_
  · simp_arith
    refine pick_wp (by assumption) (by omega) (by omega) (by omega) fun r1 l1 r1a r1b B1 => ?_
    simp_arith
    refine WO_atA D.str (by omega) (by omega) fun j1 a _ hj1 => ?_
    simp_arith
    refine pick_wp (by assumption) (by omega) (by omega) (by omega) fun r2 l2 r2a r2b B2 => ?_
    simp_arith
    refine WO_atA D.str (by omega) (by omega) fun j2 b _ hj2 => ?_
    simp_arith
    refine pick_wp (by assumption) (by omega) (by omega) (by omega) fun r3 l3 r3a r3b B3 => ?_
    obtain ⟨third, rfl⟩ := Int.eq_ofNat_of_zero_le r3a
    simp_arith
    refine WO_atA D.str (by omega) (by omega) fun j3 t1 ej3 hj3 => ?_
    simp_arith
    refine pick_wp (by assumption) (by omega) (by omega) (by omega) fun r4 l4 r4a r4b B4 => ?_
    have hfm : Int.fmod ((third : Int) + 1 + r4) 9 = ((third : Int) + 1 + r4) % 9 := Int.fmod_eq_emod_of_nonneg _ (by decide)
    simp_arith
    refine WO_atA D.str (by omega) (by omega) fun j4 t2 ej4 hj4 => ?_
    simp_arith
    refine pick_wp (by assumption) (by omega) (by omega) (by omega) fun r5 l5 r5a r5b B5 => ?_
    obtain ⟨d5, rfl⟩ := Int.eq_ofNat_of_zero_le r5a
    simp_arith
    refine pick_wp (by assumption) (by omega) (by omega) (by omega) fun r6 l6 r6a r6b B6 => ?_
    simp_arith
    refine WO_atP (P := fun d => ∃ k : Nat, d = .int (k : Int) ∧ k ≤ 39) ?_ (by omega) (by simp; omega) ?_
    · refine all_cons ⟨0, rfl, by omega⟩ (all_cons ⟨39, rfl, by omega⟩ (all_cons ⟨d5, rfl, by omega⟩ all_nil))
    rintro _ ⟨day, rfl, hday⟩
    simp_arith
    refine pick_wp (by assumption) (by omega) (by omega) (by omega) fun r7 l7 r7a r7b B7 => ?_
    obtain ⟨d7, rfl⟩ := Int.eq_ofNat_of_zero_le r7a
    simp_arith
    refine pick_wp (by assumption) (by omega) (by omega) (by omega) fun r8 l8 r8a r8b B8 => ?_
    obtain ⟨d8, rfl⟩ := Int.eq_ofNat_of_zero_le r8a
    obtain ⟨e2, e3, he, h2, h3, hso⟩ := sort2 d7 d8
    simp_arith [↓hso]
    refine pick_wp (by assumption) (by omega) (by omega) (by omega) fun r9 l9 r9a r9b B9 => ?_
    obtain ⟨d9, rfl⟩ := Int.eq_ofNat_of_zero_le r9a
    simp_arith
    refine pick_wp (by assumption) (by omega) (by omega) (by omega) fun r10 l10 r10a r10b B10 => ?_
    simp_arith
    refine WO_atP (P := fun d => ∃ k : Nat, d = .int (k : Int) ∧ 1 ≤ k ∧ k ≤ 999) ?_ (by omega) (by simp; omega) ?_
    · refine all_cons ⟨1, rfl, by omega, by omega⟩ (all_cons ⟨999, rfl, by omega, by omega⟩ (all_cons ⟨1 + d9, by rw [Int.natCast_add]; rfl, by omega, by omega⟩ all_nil))
    rintro _ ⟨water, rfl, hw0, hw1⟩
    simp_arith
    refine pick_wp (by assumption) (by omega) (by omega) (by omega) fun r11 l11 r11a r11b B11 => ?_
    obtain ⟨d11, rfl⟩ := Int.eq_ofNat_of_zero_le r11a
    simp_arith
    refine pick_wp (by assumption) (by omega) (by omega) (by omega) fun r12 l12 r12a r12b B12 => ?_
    simp_arith
    refine WO_atP (P := fun d => ∃ k : Nat, d = .int (k : Int) ∧ k ≤ 99) ?_ (by omega) (by simp; omega) ?_
    · refine all_cons ⟨0, rfl, by omega⟩ (all_cons ⟨99, rfl, by omega⟩ (all_cons ⟨d11, rfl, by omega⟩ all_nil))
    rintro _ ⟨sky, rfl, hsky⟩
    simp_arith
    have ej3' : third = j3 := by omega
    subst ej3'
    refine ⟨a, b, t1, t2, third, day, e2, e3, water, sky, l12, ⟨List.mem_of_getElem? hj1, List.mem_of_getElem? hj2, hj3, List.mem_of_getElem? hj4, two_of nd hj3 hj4 (by omega), hday, he, by omega, hw0, hw1, hsky⟩, B12.mono (by omega), rfl⟩
  · rintro _ ⟨a, b, t1, t2, third, day, e2, e3, water, sky, l0, dr, B, rfl⟩
    obtain ⟨s, hs, rfl⟩ := hw
    have hwd := ws_wd s hs
    have hky := ws_ky s hs
    simp only [WS, List.mem_cons, List.not_mem_nil, or_false] at hs
    have hle : ((e2 : Int) ≤ (e3 : Int)) := by have := dr.he; omega
    have hne : decide (t1 = t2) = false := decide_eq_false dr.ne
    have hlv : ((water : Int) - 1) = ((water - 1 : Nat) : Int) := by have := dr.w0; omega
    have hc1 : cutS (Str.ofString "wet") (some (-3)) none = Str.ofString "wet" := by decide +kernel
    have hc2 : cutS (Str.ofString "nowet") (some (-3)) none = Str.ofString "wet" := by decide +kernel
    have hc3 : cutS (Str.ofString "dry") (some (-3)) none = Str.ofString "dry" := by decide +kernel
    have hc4 : cutS (Str.ofString "nodry") (some (-3)) none = Str.ofString "dry" := by decide +kernel
    rcases hs with rfl | rfl | rfl | rfl | rfl | rfl | rfl | rfl | rfl | rfl | rfl | rfl | rfl | rfl | rfl | rfl | rfl | rfl | rfl | rfl | rfl | rfl | rfl | rfl
    · have hat := atI_map D.str dr.h1
      simp_arith [eqL, inL2, inL4, String.reduceEq, hat]
      refine pick_wp (by assumption) (by omega) (by omega) (by omega) fun r1 l1 r1a r1b B1 => ?_
      have hcase : r1 = 0 ∨ r1 = 1 := by omega
      rcases hcase with rfl | rfl
      · simp_arith [eqL, inL2, inL4, String.reduceEq]
        refine q [(Str.ofString "name", a, .str a), (Str.ofString "name", b, .str b), (Str.ofString "below", Str.ofString "-", .str (Str.ofString "")), (Str.ofString "water", strI ((water : Nat) : Int), .int ((water : Nat) : Int)), (Str.ofString "sky", strI ((sky : Nat) : Int), .int ((sky : Nat) : Int))] _ ⟨hwd, (show tb_FORMS.lookup (Str.ofString "field") = some [Str.ofString "name", Str.ofString "name", Str.ofString "below", Str.ofString "water", Str.ofString "sky"] by decide +kernel), hky, (show 5 ≤ 7 by decide), ok_allc (.nm (hy _ dr.ha)) (ok_allc (.nm (hy _ dr.hb)) (ok_allc (.no) (ok_allc (ok_water dr.w0 dr.w1) (ok_allc (ok_sky dr.hs) (ok_all0))))), fun K2 q2 => ?_⟩ (B1.mono (by omega))
        · rw [sem_may_be]
          simp_arith [eqL, inL2, inL4, String.reduceEq, b_may_be]
          exact q2
      · simp_arith [eqL, inL2, inL4, String.reduceEq]
        refine q [(Str.ofString "name", a, .str a), (Str.ofString "name", b, .str b), (Str.ofString "below", t1, .str t1), (Str.ofString "water", strI ((water : Nat) : Int), .int ((water : Nat) : Int)), (Str.ofString "sky", strI ((sky : Nat) : Int), .int ((sky : Nat) : Int))] _ ⟨hwd, (show tb_FORMS.lookup (Str.ofString "field") = some [Str.ofString "name", Str.ofString "name", Str.ofString "below", Str.ofString "water", Str.ofString "sky"] by decide +kernel), hky, (show 5 ≤ 7 by decide), ok_allc (.nm (hy _ dr.ha)) (ok_allc (.nm (hy _ dr.hb)) (ok_allc (.bel (hy _ (List.mem_of_getElem? dr.h1))) (ok_allc (ok_water dr.w0 dr.w1) (ok_allc (ok_sky dr.hs) (ok_all0))))), fun K2 q2 => ?_⟩ (B1.mono (by omega))
        · rw [sem_may_be]
          simp_arith [eqL, inL2, inL4, String.reduceEq, b_may_be]
          exact q2
    · simp_arith [eqL, inL2, inL4, String.reduceEq]
      refine pick_wp (by assumption) (by omega) (by omega) (by omega) fun r1 l1 r1a r1b B1 => ?_
      obtain ⟨d1, rfl⟩ := Int.eq_ofNat_of_zero_le r1a
      simp_arith
      refine pick_wp (by assumption) (by omega) (by omega) (by omega) fun r2 l2 r2a r2b B2 => ?_
      simp_arith
      refine WO_atP (P := fun d => ∃ k : Nat, d = .int (k : Int) ∧ 1 ≤ k ∧ k ≤ 12) ?_ (by omega) (by simp; omega) ?_
      · refine all_cons ⟨12, rfl, by omega, by omega⟩ (all_cons ⟨1 + d1, by rw [Int.natCast_add]; rfl, by omega, by omega⟩ all_nil)
      rintro _ ⟨k, rfl, hk0, hk1⟩
      simp_arith
      refine WO_if (by exact in62_small (by omega) (by omega)) ?_
      simp_arith
      refine W_compE (fun e0 i ys e => ∃ rs l, ys = rs.map D.str ∧ (∀ r ∈ rs, r ∈ xs) ∧ rs.length = i ∧ Lf (n + 22 + i) l ∧ e = puts e0 [(0, .io 0 l)]) ⟨[], l2, rfl, fun _ h => by simp at h, rfl, B2.mono (by omega), rfl⟩ ?_ ?_
      · rintro j d ys e' hd ⟨rs, l3, rfl, hrs, hrl, B3, rfl⟩
        have hj := (rng_get hd).1
        simp_arith
        refine pick_wp (by assumption) (by omega) (by omega) (by omega) fun r4 l4 r4a r4b B4 => ?_
        simp_arith
        refine WO_atA D.str (by omega) (by omega) fun j5 y _ hj5 => ?_
        simp_arith
        refine ⟨rs ++ [y], l4, by rw [List.map_append]; rfl, fun z hz => ?_, by rw [List.length_append, hrl]; rfl, B4.mono (by omega), rfl⟩
        rcases List.mem_append.mp hz with hz | hz
        · exact hrs z hz
        · rw [List.mem_singleton.mp hz]
          exact List.mem_of_getElem? hj5
      rintro ys e' ⟨rs0, l3, rfl, hrs0, hrl0, B3, rfl⟩
      rw [rng_len, Int.toNat_natCast] at hrl0 B3
      simp_arith [List.length_map]
      refine WC_dec (by omega) ?_
      obtain ⟨zs, pz, hz, hso⟩ := sorted_strs nd
      have hzl : zs.length = 9 := pz.length_eq.trans hx
      have hsd : sortedD [.lst (xs.map D.str)] = some (.fr (.lst (zs.map D.str))) := by
        have := sort_ok (t := .str 6) (ds := xs.map D.str) (strs_has fun x hx => (hy x hx).as) (by decide) (by decide) rfl (by rw [List.length_map]; omega)
        rw [this, hso]
      simp_arith [↓hsd]
      refine pick_wp (by assumption) (by omega) (by omega) (by omega) fun r5 l5 r5a r5b B5 => ?_
      obtain ⟨d5, rfl⟩ := Int.eq_ofNat_of_zero_le r5a
      have hc1 : cutD (zs.map D.str) (some (d5 : Int)) none = (zs.drop d5).map D.str := by
        have := cut_drop (zs.map D.str) d5
        rw [← List.map_drop] at this
        exact this
      have hc2 : cutD ((zs.drop d5).map D.str) none (some 8) = ((zs.drop d5).take 8).map D.str := by
        have := cut_take ((zs.drop d5).map D.str) 8
        rw [← List.map_take] at this
        exact this
      simp_arith [hc1, hc2]
      have hf0 : 1 ≤ ((zs.drop d5).take 8).length := by
        rw [List.length_take, List.length_drop]
        omega
      have hf1 : ((zs.drop d5).take 8).length ≤ 8 := by
        rw [List.length_take]
        omega
      have hfs : ∀ r ∈ (zs.drop d5).take 8, r ∈ xs := fun r hr => pz.mem_iff.mp (List.mem_of_mem_drop (List.mem_of_mem_take hr))
      have hfr : RisN ((zs.drop d5).take 8) := hz.sublist ((List.take_sublist ..).trans (List.drop_sublist ..))
      generalize (zs.drop d5).take 8 = fs at *
      refine WO_if (by exact in62_small (by omega) (by omega)) ?_
      simp_arith
      refine W_forE (fun e0 i e => ∃ rs c, 1 ≤ rs.length ∧ rs.length ≤ 12 ∧ (∀ r ∈ rs, r ∈ xs) ∧ e = puts e0 [(12, .im (.tup [.str (Str.ofString "gate"), .str a, .int (water : Int), .tup (rs.map D.str), .tup (fs.map D.str)])), (13, c)]) ⟨rs0, .em, by omega, by omega, hrs0, rfl⟩ ?_ ?_
      · rintro i d _ _ ⟨rs, c, hr0, hr1, hrs, rfl⟩
        have hrn : ∀ r ∈ rs, NmL r := fun r hr => hy r (hrs r hr)
        simp_arith
        rw [fb__law_row_1]
        simp_arith
        refine text_wp (ps := [(Str.ofString "gate", .str (Str.ofString "gate")), (a, .str a), (strI (water : Int), .int (water : Int)), (Txt.join Cm rs, .tup (rs.map D.str)), (Txt.join Cm fs, .tup (fs.map D.str))]) (by simp) (by simp) ?_ ?_
        · intro p hp
          simp only [List.mem_cons, List.not_mem_nil, or_false] at hp
          rcases hp with rfl | rfl | rfl | rfl | rfl
          · exact .str hwd
          · exact .str ((Wd.nm (hy _ dr.ha)).mono (by decide))
          · exact .num (by have := dr.w1; omega)
          · exact .tup hr0 hr1 hrn
          · exact .tup hf0 (by omega) fun r hr => hy r (hfs r hr)
        have hjl : (Txt.join Sp [Str.ofString "gate", a, strI (water : Int), Txt.join Cm rs, Txt.join Cm fs]).length ≤ 4 + 6 + 3 + rs.length * 7 + 8 * 7 + 4 := by
          have l1 : (Str.ofString "gate").length = 4 := by decide +kernel
          have l2 := (hy _ dr.ha).l1
          have l3 : (strI (water : Int)).length ≤ 3 := by
            rw [(fig_of (n := water) (by have := dr.w1; omega)).ln]
            split <;> (try split) <;> omega
          have l4 := (join_as (n := 6) cm_as fun r hr => (hrn r hr).as).1
          have l5 := (join_as (n := 6) cm_as (ws := fs) fun r hr => (hy r (hfs r hr)).as).1
          have l6 : Sp.length = 1 := by decide +kernel
          have l7 : fs.length * 7 ≤ 8 * 7 := Nat.mul_le_mul_right _ hf1
          rw [TL.join_eq]
          show (Str.ofString "gate" ++ Sp ++ (a ++ Sp ++ (strI (water : Int) ++ Sp ++ (Txt.join Cm rs ++ Sp ++ Txt.join Cm fs)))).length ≤ _
          simp only [Str.length_append]
          omega
        have hjr : rs.length * 7 ≤ 12 * 7 := Nat.mul_le_mul_right _ hr1
        simp_arith
        refine WO_ifd (by omega) ?_
        simp_arith
        refine WB_cases' (fun hlt => ?_) (fun hlt => ?_)
        · have hr2 : 2 ≤ rs.length := by omega
          have k3 : PD.cutD ([.str (Str.ofString "gate"), .str a, .int (water : Int), .tup (rs.map D.str), .tup (fs.map D.str)] : List D) none (some 3) = [.str (Str.ofString "gate"), .str a, .int (water : Int)] := cut_take _ 3
          have k4 : PD.cutD ([.str (Str.ofString "gate"), .str a, .int (water : Int), .tup (rs.map D.str), .tup (fs.map D.str)] : List D) (some 4) none = [.tup (fs.map D.str)] := cut_drop _ 4
          have k5 : PD.cutD (rs.map D.str) none (some (-1)) = (rs.take (rs.length - 1)).map D.str := by
            rw [cutD_m1 (by rw [List.length_map]; omega), List.length_map, List.map_take]
          simp_arith [k3, k4, k5]
          refine ⟨rs.take (rs.length - 1), _, by rw [List.length_take]; omega, by rw [List.length_take]; omega, fun r hr => hrs r (List.mem_of_mem_take hr), rfl⟩
        · simp_arith
          exact ⟨rs, _, hr0, hr1, hrs, rfl⟩
      · rintro _ ⟨rs, c, hr0, hr1, hrs, rfl⟩
        simp_arith
        refine q [(Str.ofString "name", a, .str a), (Str.ofString "water", strI ((water : Nat) : Int), .int ((water : Nat) : Int)), (Str.ofString "owners", Txt.join Cm rs, .tup (rs.map D.str)), (Str.ofString "fields", Txt.join Cm fs, .tup (fs.map D.str))] _ ⟨hwd, (show tb_FORMS.lookup (Str.ofString "gate") = some [Str.ofString "name", Str.ofString "water", Str.ofString "owners", Str.ofString "fields"] by decide +kernel), hky, (show 4 ≤ 7 by decide), ok_allc (.nm (hy _ dr.ha)) (ok_allc (ok_water dr.w0 dr.w1) (ok_allc (.own hr0 hr1 fun r hr => hy r (hrs r hr)) (ok_allc (.fld hf0 hf1 (fun r hr => hy r (hfs r hr)) hfr) (ok_all0)))), fun K2 q2 => ?_⟩ (B5.mono (by omega))
        · rw [sem_may_be]
          simp_arith [eqL, inL2, inL4, String.reduceEq, b_may_be]
          exact q2
    · simp_arith [eqL, inL2, inL4, String.reduceEq]
      refine q [] _ ⟨hwd, (show tb_FORMS.lookup (Str.ofString "begin") = some [] by decide +kernel), hky, (show 0 ≤ 7 by decide), ok_all0, fun K2 q2 => ?_⟩ (B.mono (by omega))
      · rw [sem_may_be]
        simp_arith [eqL, inL2, inL4, String.reduceEq, b_may_be]
        exact q2
    · simp_arith [eqL, inL2, inL4, String.reduceEq]
      refine q [(Str.ofString "day", strI ((day : Nat) : Int), .int ((day : Nat) : Int)), (Str.ofString "sky", strI ((sky : Nat) : Int), .int ((sky : Nat) : Int))] _ ⟨hwd, (show tb_FORMS.lookup (Str.ofString "rain") = some [Str.ofString "day", Str.ofString "sky"] by decide +kernel), hky, (show 2 ≤ 7 by decide), ok_allc (ok_day dr.hd) (ok_allc (ok_sky dr.hs) (ok_all0)), fun K2 q2 => ?_⟩ (B.mono (by omega))
      · rw [sem_may_be]
        simp_arith [eqL, inL2, inL4, String.reduceEq, b_may_be]
        exact q2
    · simp_arith [eqL, inL2, inL4, String.reduceEq]
      refine q [(Str.ofString "day", strI ((day : Nat) : Int), .int ((day : Nat) : Int)), (Str.ofString "sky", strI ((sky : Nat) : Int), .int ((sky : Nat) : Int))] _ ⟨hwd, (show tb_FORMS.lookup (Str.ofString "sun") = some [Str.ofString "day", Str.ofString "sky"] by decide +kernel), hky, (show 2 ≤ 7 by decide), ok_allc (ok_day dr.hd) (ok_allc (ok_sky dr.hs) (ok_all0)), fun K2 q2 => ?_⟩ (B.mono (by omega))
      · rw [sem_may_be]
        simp_arith [eqL, inL2, inL4, String.reduceEq, b_may_be]
        exact q2
    · simp_arith [eqL, inL2, inL4, String.reduceEq]
      refine q [(Str.ofString "day", strI ((day : Nat) : Int), .int ((day : Nat) : Int)), (Str.ofString "name", a, .str a), (Str.ofString "name", t1, .str t1), (Str.ofString "name", t2, .str t2)] _ ⟨hwd, (show tb_FORMS.lookup (Str.ofString "lend") = some [Str.ofString "day", Str.ofString "name", Str.ofString "name", Str.ofString "name"] by decide +kernel), hky, (show 4 ≤ 7 by decide), ok_allc (ok_day dr.hd) (ok_allc (.nm (hy _ dr.ha)) (ok_allc (.nm (hy _ (List.mem_of_getElem? dr.h1))) (ok_allc (.nm (hy _ dr.h2)) (ok_all0)))), fun K2 q2 => ?_⟩ (B.mono (by omega))
      · rw [sem_may_be]
        simp_arith [eqL, inL2, inL4, String.reduceEq, b_may_be, neD_str, hne]
        exact q2
    · simp_arith [eqL, inL2, inL4, String.reduceEq]
      refine q [(Str.ofString "day", strI ((day : Nat) : Int), .int ((day : Nat) : Int)), (Str.ofString "name", a, .str a), (Str.ofString "name", b, .str b), (Str.ofString "water", strI ((water : Nat) : Int), .int ((water : Nat) : Int))] _ ⟨hwd, (show tb_FORMS.lookup (Str.ofString "let") = some [Str.ofString "day", Str.ofString "name", Str.ofString "name", Str.ofString "water"] by decide +kernel), hky, (show 4 ≤ 7 by decide), ok_allc (ok_day dr.hd) (ok_allc (.nm (hy _ dr.ha)) (ok_allc (.nm (hy _ dr.hb)) (ok_allc (ok_water dr.w0 dr.w1) (ok_all0)))), fun K2 q2 => ?_⟩ (B.mono (by omega))
      · rw [sem_may_be]
        simp_arith [eqL, inL2, inL4, String.reduceEq, b_may_be]
        exact q2
    · simp_arith [eqL, inL2, inL4, String.reduceEq]
      refine q [(Str.ofString "day", strI ((day : Nat) : Int), .int ((day : Nat) : Int)), (Str.ofString "name", a, .str a), (Str.ofString "name", b, .str b)] _ ⟨hwd, (show tb_FORMS.lookup (Str.ofString "shut") = some [Str.ofString "day", Str.ofString "name", Str.ofString "name"] by decide +kernel), hky, (show 3 ≤ 7 by decide), ok_allc (ok_day dr.hd) (ok_allc (.nm (hy _ dr.ha)) (ok_allc (.nm (hy _ dr.hb)) (ok_all0))), fun K2 q2 => ?_⟩ (B.mono (by omega))
      · rw [sem_may_be]
        simp_arith [eqL, inL2, inL4, String.reduceEq, b_may_be]
        exact q2
    · simp_arith [eqL, inL2, inL4, String.reduceEq]
      refine WO_ifd (by decide +kernel) ?_
      simp_arith [eqL, inL2, inL4, String.reduceEq, hc1]
      refine q [(Str.ofString "name", a, .str a), (Str.ofString "day", strI ((e2 : Nat) : Int), .int ((e2 : Nat) : Int)), (Str.ofString "day", strI ((e3 : Nat) : Int), .int ((e3 : Nat) : Int)), (Str.ofString "water", strI ((water : Nat) : Int), .int ((water : Nat) : Int))] _ ⟨hwd, (show tb_FORMS.lookup (Str.ofString "wet") = some [Str.ofString "name", Str.ofString "day", Str.ofString "day", Str.ofString "water"] by decide +kernel), hky, (show 4 ≤ 7 by decide), ok_allc (.nm (hy _ dr.ha)) (ok_allc (ok_day (Nat.le_trans dr.he dr.he1)) (ok_allc (ok_day dr.he1) (ok_allc (ok_water dr.w0 dr.w1) (ok_all0)))), fun K2 q2 => ?_⟩ (B.mono (by omega))
      · rw [sem_may_be]
        simp_arith [eqL, inL2, inL4, String.reduceEq, b_may_be, hle]
        exact q2
    · simp_arith [eqL, inL2, inL4, String.reduceEq]
      refine WO_ifd (by decide +kernel) ?_
      simp_arith [eqL, inL2, inL4, String.reduceEq, hc3]
      refine q [(Str.ofString "name", a, .str a), (Str.ofString "day", strI ((e2 : Nat) : Int), .int ((e2 : Nat) : Int)), (Str.ofString "day", strI ((e3 : Nat) : Int), .int ((e3 : Nat) : Int))] _ ⟨hwd, (show tb_FORMS.lookup (Str.ofString "dry") = some [Str.ofString "name", Str.ofString "day", Str.ofString "day"] by decide +kernel), hky, (show 3 ≤ 7 by decide), ok_allc (.nm (hy _ dr.ha)) (ok_allc (ok_day (Nat.le_trans dr.he dr.he1)) (ok_allc (ok_day dr.he1) (ok_all0))), fun K2 q2 => ?_⟩ (B.mono (by omega))
      · rw [sem_may_be]
        simp_arith [eqL, inL2, inL4, String.reduceEq, b_may_be, hle]
        exact q2
    · simp_arith [eqL, inL2, inL4, String.reduceEq]
      refine WO_ifd (by decide +kernel) ?_
      simp_arith [eqL, inL2, inL4, String.reduceEq, hc2]
      refine q [(Str.ofString "name", a, .str a), (Str.ofString "day", strI ((e2 : Nat) : Int), .int ((e2 : Nat) : Int)), (Str.ofString "day", strI ((e3 : Nat) : Int), .int ((e3 : Nat) : Int)), (Str.ofString "water", strI ((water : Nat) : Int), .int ((water : Nat) : Int))] _ ⟨hwd, (show tb_FORMS.lookup (Str.ofString "nowet") = some [Str.ofString "name", Str.ofString "day", Str.ofString "day", Str.ofString "water"] by decide +kernel), hky, (show 4 ≤ 7 by decide), ok_allc (.nm (hy _ dr.ha)) (ok_allc (ok_day (Nat.le_trans dr.he dr.he1)) (ok_allc (ok_day dr.he1) (ok_allc (ok_water dr.w0 dr.w1) (ok_all0)))), fun K2 q2 => ?_⟩ (B.mono (by omega))
      · rw [sem_may_be]
        simp_arith [eqL, inL2, inL4, String.reduceEq, b_may_be, hle]
        exact q2
    · simp_arith [eqL, inL2, inL4, String.reduceEq]
      refine WO_ifd (by decide +kernel) ?_
      simp_arith [eqL, inL2, inL4, String.reduceEq, hc4]
      refine q [(Str.ofString "name", a, .str a), (Str.ofString "day", strI ((e2 : Nat) : Int), .int ((e2 : Nat) : Int)), (Str.ofString "day", strI ((e3 : Nat) : Int), .int ((e3 : Nat) : Int))] _ ⟨hwd, (show tb_FORMS.lookup (Str.ofString "nodry") = some [Str.ofString "name", Str.ofString "day", Str.ofString "day"] by decide +kernel), hky, (show 3 ≤ 7 by decide), ok_allc (.nm (hy _ dr.ha)) (ok_allc (ok_day (Nat.le_trans dr.he dr.he1)) (ok_allc (ok_day dr.he1) (ok_all0))), fun K2 q2 => ?_⟩ (B.mono (by omega))
      · rw [sem_may_be]
        simp_arith [eqL, inL2, inL4, String.reduceEq, b_may_be, hle]
        exact q2
    · simp_arith [eqL, inL2, inL4, String.reduceEq, hlv]
      refine q [(Str.ofString "day", strI ((day : Nat) : Int), .int ((day : Nat) : Int)), (Str.ofString "name", a, .str a), (Str.ofString "level", strI ((water - 1 : Nat) : Int), .int ((water - 1 : Nat) : Int))] _ ⟨hwd, (show tb_FORMS.lookup (Str.ofString "breach") = some [Str.ofString "day", Str.ofString "name", Str.ofString "level"] by decide +kernel), hky, (show 3 ≤ 7 by decide), ok_allc (ok_day dr.hd) (ok_allc (.nm (hy _ dr.ha)) (ok_allc (ok_level (by have := dr.w1; omega)) (ok_all0))), fun K2 q2 => ?_⟩ (B.mono (by omega))
      · rw [sem_may_be]
        simp_arith [eqL, inL2, inL4, String.reduceEq, b_may_be]
        exact q2
    · simp_arith [eqL, inL2, inL4, String.reduceEq]
      refine q [(Str.ofString "day", strI ((day : Nat) : Int), .int ((day : Nat) : Int)), (Str.ofString "name", a, .str a)] _ ⟨hwd, (show tb_FORMS.lookup (Str.ofString "mend") = some [Str.ofString "day", Str.ofString "name"] by decide +kernel), hky, (show 2 ≤ 7 by decide), ok_allc (ok_day dr.hd) (ok_allc (.nm (hy _ dr.ha)) (ok_all0)), fun K2 q2 => ?_⟩ (B.mono (by omega))
      · rw [sem_may_be]
        simp_arith [eqL, inL2, inL4, String.reduceEq, b_may_be]
        exact q2
    · simp_arith [eqL, inL2, inL4, String.reduceEq]
      refine q [] _ ⟨hwd, (show tb_FORMS.lookup (Str.ofString "undo") = some [] by decide +kernel), hky, (show 0 ≤ 7 by decide), ok_all0, fun K2 q2 => ?_⟩ (B.mono (by omega))
      · rw [sem_may_be]
        simp_arith [eqL, inL2, inL4, String.reduceEq, b_may_be]
        exact q2
    · simp_arith [eqL, inL2, inL4, String.reduceEq]
      refine q [(Str.ofString "day", strI ((day : Nat) : Int), .int ((day : Nat) : Int))] _ ⟨hwd, (show tb_FORMS.lookup (Str.ofString "stands") = some [Str.ofString "day"] by decide +kernel), hky, (show 1 ≤ 7 by decide), ok_allc (ok_day dr.hd) (ok_all0), fun K2 q2 => ?_⟩ (B.mono (by omega))
      · rw [sem_may_be]
        simp_arith [eqL, inL2, inL4, String.reduceEq, b_may_be]
        exact q2
    · simp_arith [eqL, inL2, inL4, String.reduceEq]
      refine q [(Str.ofString "day", strI ((day : Nat) : Int), .int ((day : Nat) : Int)), (Str.ofString "name", a, .str a)] _ ⟨hwd, (show tb_FORMS.lookup (Str.ofString "rows") = some [Str.ofString "day", Str.ofString "name"] by decide +kernel), hky, (show 2 ≤ 7 by decide), ok_allc (ok_day dr.hd) (ok_allc (.nm (hy _ dr.ha)) (ok_all0)), fun K2 q2 => ?_⟩ (B.mono (by omega))
      · rw [sem_may_be]
        simp_arith [eqL, inL2, inL4, String.reduceEq, b_may_be]
        exact q2
    · simp_arith [eqL, inL2, inL4, String.reduceEq]
      refine q [(Str.ofString "day", strI ((day : Nat) : Int), .int ((day : Nat) : Int)), (Str.ofString "name", a, .str a)] _ ⟨hwd, (show tb_FORMS.lookup (Str.ofString "holder") = some [Str.ofString "day", Str.ofString "name"] by decide +kernel), hky, (show 2 ≤ 7 by decide), ok_allc (ok_day dr.hd) (ok_allc (.nm (hy _ dr.ha)) (ok_all0)), fun K2 q2 => ?_⟩ (B.mono (by omega))
      · rw [sem_may_be]
        simp_arith [eqL, inL2, inL4, String.reduceEq, b_may_be]
        exact q2
    · simp_arith [eqL, inL2, inL4, String.reduceEq]
      refine q [] _ ⟨hwd, (show tb_FORMS.lookup (Str.ofString "owing") = some [] by decide +kernel), hky, (show 0 ≤ 7 by decide), ok_all0, fun K2 q2 => ?_⟩ (B.mono (by omega))
      · rw [sem_may_be]
        simp_arith [eqL, inL2, inL4, String.reduceEq, b_may_be]
        exact q2
    · simp_arith [eqL, inL2, inL4, String.reduceEq]
      refine pick_wp (by assumption) (by omega) (by omega) (by omega) fun r1 l1 r1a r1b B1 => ?_
      obtain ⟨d1, rfl⟩ := Int.eq_ofNat_of_zero_le r1a
      simp_arith
      refine pick_wp (by assumption) (by omega) (by omega) (by omega) fun r2 l2 r2a r2b B2 => ?_
      simp_arith
      refine WO_atP (P := fun d => ∃ k : Nat, d = .int (k : Int) ∧ k ≤ 9) ?_ (by omega) (by simp; omega) ?_
      · refine all_cons ⟨9, rfl, by omega⟩ (all_cons ⟨d1, rfl, by omega⟩ all_nil)
      rintro _ ⟨k, rfl, hk⟩
      simp_arith
      obtain ⟨m, hm, hm0, hm1, hm2⟩ : ∃ m : Nat, (if ((e2 : Int) + (k : Int)) < (e3 : Int) then (e2 : Int) + (k : Int) else (e3 : Int)) = (m : Int) ∧ e2 ≤ m ∧ m ≤ e2 + 9 ∧ m ≤ e3 := by
        have := dr.he
        by_cases h : ((e2 : Int) + (k : Int)) < (e3 : Int)
        · rw [if_pos h]
          exact ⟨e2 + k, by omega, by omega, by omega, by omega⟩
        · rw [if_neg h]
          exact ⟨e3, rfl, by omega, by omega, by omega⟩
      rw [hm]
      have g1 : ((0 : Int) ≤ (m : Int) - (e2 : Int)) := by omega
      have g2 : ((m : Int) - (e2 : Int) < 10) := by omega
      refine q [(Str.ofString "name", t1, .str t1), (Str.ofString "name", t2, .str t2), (Str.ofString "day", strI ((e2 : Nat) : Int), .int ((e2 : Nat) : Int)), (Str.ofString "day", strI ((m : Nat) : Int), .int ((m : Nat) : Int))] _ ⟨hwd, (show tb_FORMS.lookup (Str.ofString "payback") = some [Str.ofString "name", Str.ofString "name", Str.ofString "day", Str.ofString "day"] by decide +kernel), hky, (show 4 ≤ 7 by decide), ok_allc (.nm (hy _ (List.mem_of_getElem? dr.h1))) (ok_allc (.nm (hy _ dr.h2)) (ok_allc (ok_day (Nat.le_trans dr.he dr.he1)) (ok_allc (ok_day (by have := dr.he1; omega)) (ok_all0)))), fun K2 q2 => ?_⟩ (B2.mono (by omega))
      · rw [sem_may_be]
        simp_arith [eqL, inL2, inL4, String.reduceEq, b_may_be, neD_str, hne, g1, g2]
        exact q2
    · simp_arith [eqL, inL2, inL4, String.reduceEq]
      refine q [] _ ⟨hwd, (show tb_FORMS.lookup (Str.ofString "fault") = some [] by decide +kernel), hky, (show 0 ≤ 7 by decide), ok_all0, fun K2 q2 => ?_⟩ (B.mono (by omega))
      · rw [sem_may_be]
        simp_arith [eqL, inL2, inL4, String.reduceEq, b_may_be]
        exact q2
    · simp_arith [eqL, inL2, inL4, String.reduceEq]
      refine q [] _ ⟨hwd, (show tb_FORMS.lookup (Str.ofString "plan") = some [] by decide +kernel), hky, (show 0 ≤ 7 by decide), ok_all0, fun K2 q2 => ?_⟩ (B.mono (by omega))
      · rw [sem_may_be]
        simp_arith [eqL, inL2, inL4, String.reduceEq, b_may_be]
        exact q2
    · simp_arith [eqL, inL2, inL4, String.reduceEq, hlv]
      refine q [(Str.ofString "day", strI ((day : Nat) : Int), .int ((day : Nat) : Int)), (Str.ofString "name", a, .str a), (Str.ofString "level", strI ((water - 1 : Nat) : Int), .int ((water - 1 : Nat) : Int))] _ ⟨hwd, (show tb_FORMS.lookup (Str.ofString "drowns") = some [Str.ofString "day", Str.ofString "name", Str.ofString "level"] by decide +kernel), hky, (show 3 ≤ 7 by decide), ok_allc (ok_day dr.hd) (ok_allc (.nm (hy _ dr.ha)) (ok_allc (ok_level (by have := dr.w1; omega)) (ok_all0))), fun K2 q2 => ?_⟩ (B.mono (by omega))
      · rw [sem_may_be]
        simp_arith [eqL, inL2, inL4, String.reduceEq, b_may_be]
        exact q2
    · simp_arith [eqL, inL2, inL4, String.reduceEq]
      refine q [] _ ⟨hwd, (show tb_FORMS.lookup (Str.ofString "lost") = some [] by decide +kernel), hky, (show 0 ≤ 7 by decide), ok_all0, fun K2 q2 => ?_⟩ (B.mono (by omega))
      · rw [sem_may_be]
        simp_arith [eqL, inL2, inL4, String.reduceEq, b_may_be]
        exact q2
end L_k75
namespace L_k75
open PySem PySem.Spec PyProof.Rows L2 PD
local macro_rules | `(tactic| simp_arith [$xs,*]) => `(tactic| try simp only [↓W_eDispT, ↓W_eLkT, ↓WV_nSetS, ↓WV_nRet, ↓WVT_nNin, ↓WV_nAhPut, ↓WV_nPut, ↓WV_nAug, ↓WV_nSetd, ↓WV_nBes, ↓WO_cW, ↓WV_nCallW, ↓WV_nSetW, ↓W_eMethN, ↓W_eMethS, ↓W_eNW, ↓W_eNB, ↓WV_nNil, ↓WV_nSeq, ↓WV_nIf, ↓WVT_nTst, ↓WVT_nAndT, ↓WV_nLift, ↓WV_nFrz, ↓WV_nFor, ↓W_ckB, ↓W_eCallR, ↓W_eCallB, ↓W_eFT, ↓W_eFS, ↓W_eP1, ↓W_sExpB, ↓W_sRetB, ↓W_sSetB, ↓W_sRetZ, ↓W_sKeep, ↓W_sSea, ↓W_sPop, ↓W_eOpB, ↓W_mNew, ↓W_sNewB, ↓W_sNewP, ↓WO_runR, ↓WO_runB, ↓W_eDisp, ↓W_qN, ↓W_qA, ↓W_qJs, ↓W_qJi, ↓W_rt, ↓W_bd, ↓W_eC, ↓W_eV, ↓W_cN, ↓W_cA, ↓W_eP, ↓W_eM, ↓W_eMf, ↓W_ckF, ↓W_ckT, ↓W_eU, ↓W_eUC, ↓W_eTup, ↓W_eLst, ↓W_eDk, ↓W_eDt, ↓W_mB, ↓W_mT, ↓W_mNot, ↓W_mAnd, ↓W_mOr, ↓W_eNot, ↓W_eAnd, ↓W_eOr, ↓W_eIf, ↓W_eTmp, ↓W_eTmpA, ↓W_cNn, ↓W_cAn, ↓W_eTmpL, ↓W_mTmp, ↓W_oN, ↓W_oS, ↓W_eSl, ↓W_eChain, ↓W_sNil, ↓W_sPass, ↓W_sBrk, ↓W_sCnt, ↓W_sRetN, ↓W_sSeq, ↓W_sExp, ↓W_sRet, ↓W_sIf, ↓W_sAsg, ↓W_gsN, ↓W_gsC, ↓W_gT, ↓W_gTl, ↓W_gS, ↓W_sRaise0, ↓W_sRaise1, ↓W_sTryK, ↓W_sCallX, ↓W_hb_im, ↓W_hb_fr, ↓W_hb_bo, ↓W_sPF, ↓W_sPF3, ↓W_sPF4, ↓W_gN_im, ↓W_gN_fr, ↓W_gN_bo, ↓W_frz_im, ↓W_frz_fr, ↓W_frz_bo, ↓W_frzs_nil, ↓W_frzs_cons, ↓W_frzA_nil, ↓W_frzA_t, ↓W_frzA_im, ↓W_frzA_bo, ↓W_callE, ↓W_eCallN, ↓W_eCallF, ↓WO_runF, ↓W_mR1, ↓W_mR2, ↓W_mR3, ↓W_eRev, ↓W_eRev2, ↓W_eRev7, ↓W_eFrz, ↓W_eGetZ, ↓W_eKf, ↓W_eLk, ↓W_mLst, ↓W_mLz, ↓W_mTup, ↓W_mEnum, ↓W_mEnumT, ↓W_mStr, ↓W_mDk, ↓W_mZip, ↓W_sFor, ↓W_sWhl, ↓W_eComp, ↓W_eTupB, ↓W_sAug, ↓W_sAugS, ↓W_eTmpD, ↓W_eTmpU, ↓W_sLkS, ↓W_mDi, ↓W_mZipM, ↓Rw_to4, ↓Rw_from4, ↓W_gT_Fld, ↓W_gT_Gt, ↓W_gT_Lt, ↓W_gT_bD, ↓W_gT_Dn, ↓W_gT_Rw, ↓Fld_i0, ↓Fld_i1, ↓Fld_i2, ↓Fld_i3, ↓Fld_i4, ↓Gt_i0, ↓Gt_i1, ↓Gt_i2, ↓Gt_i3, ↓Lt_i0, ↓Lt_i1, ↓Lt_i2, ↓bD_i0, ↓bD_i1, ↓Dn_i0, ↓Dn_i1, ↓Dn_i2, ↓Dn_i3, ↓Rw_i0, ↓Rw_i1, ↓Rw_i2, ↓Rw_i3, ↓Rw_i4, ↓Rw_i5, ↓Rw_i6, ↓Ter_i0, ↓Ter_i1, imsV_nil, imsV_cons, okSl_im, okSl_em, okSl_ow, nd1_im, kd1_im, int1_im, kv1_im, isNs_nt, noBo, nxV_nx, isEm_em, isNt_nt, thE_nil, thE_cons, isIm_im, isIm_em, isIm_ow, slNm_em, slNm_im, slNm_ow, nm_nd, nodeD_nd, keyW_nd, bkO, bkNO, setBk_nil, setBk_cons, setBk_em, setBk_im, setBk_ow, setBk_io, setBk_bk, insB0, insB1, insB2, insB3, isBk_bk, BkS.nm, Vl.nmB, FnN_sig, Fk_sem, Fk_sig, exV_im, exV_ex, exOf_ex, exOf_nx, tyF, frK_fr, nxK_nx, lstLF, atomV, WO_map, WO_some, WO_none, WB_true, WB_false, WC_true, goes_nx, goes_ct, goes_bk, goes_rt, cut_nx, cut_bk, cut_ct, cut_rt, List.eraseIdx_cons_zero, List.eraseIdx_cons_succ, puts_nil, puts_cons, List.getElem?_cons_zero, List.getElem?_cons_succ, setO, frzO_eq, Option.map_some, putO, putC, List.set_cons_zero, List.set_cons_succ, mutAtD, only, dropM, mutL, PD.cnts, PD.cnt, Vl.hold, tyT, beq_self_eq_true, small_eq, lessL_eq, decide_true, decide_false, List.length_cons, List.length_nil, mkE, List.replicate_succ, List.replicate_zero, List.cons_append, List.nil_append, outE, retV, ioAll, ioIx, brIx, mutAt, updE, disj, nmOut, Vl.nm, D.nm, D.nmC, nms, Sl.mut, Sl.frz, D.atom, List.map_cons, List.map_nil, wipeE, unwipe, calm_em, calm_im, calm_none, List.all_cons, List.all_nil, Bool.and_true, Bool.true_and, Bool.and_self, Bool.or_true, Bool.or_self, Bool.true_or, Bool.false_or, Bool.or_false, Bool.not_true, Bool.not_false, Bool.and_false, Bool.false_and, List.isEmpty_nil, List.isEmpty_cons, List.nodup_cons, List.nodup_nil, List.not_mem_nil, not_false_eq_true, and_self, List.contains_nil, if_true, if_false, Bool.false_eq_true, ite_true, ite_false, rg1, rg2, rg3_10, revLD, rev2D, rev7D, addND, subND, seqL, seqZ, seqT, zipO, addD, subD, mulD, mulTD, divD, modD, powD, negD, ltD, leD, gtD, geD, lenD, absD, minD, maxD, PD.intD, ixD, isnD, appendD, reverseD, extendD, slD, setD, listD, tupleD, tupleBD, truD, at0, at1, at2, at3, at4, at5, at6, at7, sd0, sd1, sd2, sd3, ixN, Int.cast_ofNat_Int, Int.reduceEq, Int.reduceNe, Int.reduceLT, Int.reduceLE, Int.reduceNeg, Int.reduceAdd, Int.reduceSub, Int.reduceMul, Int.reducePow, Nat.reducePow, Int.reduceToNat, Int.reduceAbs, ne_eq, not_true_eq_false, Nat.zero_add, Nat.add_zero, Nat.reduceAdd, Nat.reduceSub, Nat.reduceLT, Nat.reduceLeDiff, Nat.reduceEqDiff, Nat.reduceMul, i63_0, i63_1, zipMO_lt, zipMO_tl, zipMO_ll, List.flatten_cons, List.flatten_nil, Nat.lt_irrefl, reduceCtorEq, Nat.zero_lt_succ, Nat.reduceSubDiff, Nat.sub_zero, Nat.sub_self, Bool.not_eq_true, Bool.not_eq_false, b__law_box, b__law_take, ce__law_words_1, cp__law_words_1, ce__law_words_2, cp__law_words_2, ce__law_words_3, cp__law_words_3, fl__law_words_4, b__law_words, fl__law_text_1, b__law_text, fl__law_row_1, ce__law_row_2, cp__law_row_2, b__law_row, fl__law_loose_1, b__law_loose, ce__law_same_1, cp__law_same_1, b__law_same, ce_number_in_1, cp_number_in_1, b_number_in, ce_is_name_1, cp_is_name_1, b_is_name, ce_names_in_1, cp_names_in_1, b_names_in, ce_are_rising_1, cp_are_rising_1, b_are_rising, b_thing_in, b_may_be, ce_read_row_1, cp_read_row_1, ce_read_row_2, cp_read_row_2, b_read_row, fl_law_1, fl_law_2, fl_law_3, b_law, sig__law_box, sig__law_take, sig__law_words, sig__law_text, sig__law_row, sig__law_loose, sig_number_in, sig_is_name, sig_names_in, sig_are_rising, sig_thing_in, sig_may_be, sig_read_row, sig_law, ↓W_mZipC, $xs,*])
local macro_rules | `(tactic| simp_arith) => `(tactic| simp_arith [W_cN])
theorem j1 (ds : List D) : isD [.lst ds, .non] = some (.im (.bl false)) := rfl
theorem j2 (ds : List D) : isD [.tup ds, .non] = some (.im (.bl false)) := rfl
theorem j3 (ds : List D) : isiD [.lst ds, .ty "bool"] = some (.im (.bl false)) := rfl
theorem j4 (ds : List D) : isiD [.tup ds, .ty "bool"] = some (.im (.bl false)) := rfl
theorem all_bl (ds : List D) : allD [.lst (ds.map fun _ => .bl true)] = some (.im (.bl true)) := by
  have h : ∀ l : List D, blsD (l.map fun _ => D.bl true) = some (l.map fun _ => true) := by
    intro l
    induction l with
    | nil => rfl
    | cons a r ih =>
      show (blsD (r.map fun _ => D.bl true)).map (true :: ·) = _
      rw [ih]
      rfl
  have h2 : ((ds.map fun _ => true).all id) = true := by simp
  simp only [allD, h, Option.map_some, h2]
/-- data that _law_same goes through in n steps -/
def Sd : Nat → D → Prop
  | 0, _ => False
  | n + 1, d => (∃ i, d = .int i) ∨ (∃ x, d = .str x) ∨ (∃ ds, (d = .lst ds ∨ d = .tup ds) ∧ ds.length ≤ 10000 ∧ ∀ e ∈ ds, Sd n e)
theorem sig_same (n : Nat) : (F__law_same n).sig = [false, false] := by cases n <;> rfl
theorem same_sem : ∀ (n : Nat) (d : D), Sd n d → (F__law_same n).sem [d, d] = some (.im (.bl true), [d, d])
  | 0, _, h => h.elim
  | n + 1, d, h => by
    have sg := sig_same n
    suffices key : @WO _ (runF [false, false] 4 (b__law_same (F__law_same n)) [d, d]) ⟨fun p => p = (.im (.bl true), [d, d])⟩ by
      obtain ⟨p, h1, rfl⟩ := key
      exact h1
    rcases h with ⟨i, rfl⟩ | ⟨x, rfl⟩ | ⟨ds, e | e, hl, h⟩
    · simp_arith [si4, si10, si11, si12, sn2, eqD_int]
    · simp_arith [si3, si9, si16, sn1, eqD_str, eqD_bl]
    · subst e
      simp_arith [si1, si5, si6, j1, j3, neD_bl, eqD_int]
      refine W_comp_map (fun _ => .bl true) (fun z hz => ?_) ?_
      · rw [zip_self] at hz
        obtain ⟨e, he, rfl⟩ := List.mem_map.mp hz
        simp_arith [sg, same_sem n e (h e he)]
      · rw [zip_self, List.map_map]
        simp_arith [List.length_map]
        refine WC_dec (by omega) ?_
        have ha := all_bl ds
        simp_arith [ha, Function.comp_def]
    · subst e
      simp_arith [si2, si7, si8, j2, j4, neD_bl, eqD_int]
      refine W_comp_map (fun _ => .bl true) (fun z hz => ?_) ?_
      · rw [zip_self] at hz
        obtain ⟨e, he, rfl⟩ := List.mem_map.mp hz
        simp_arith [sg, same_sem n e (h e he)]
      · rw [zip_self, List.map_map]
        simp_arith [List.length_map]
        refine WC_dec (by omega) ?_
        have ha := all_bl ds
        simp_arith [ha, Function.comp_def]
end L_k75
namespace L_k75
open PySem PySem.Spec PyProof.Rows L2 PD
local macro_rules | `(tactic| simp_arith [$xs,*]) => `(tactic| try simp only [↓W_eDispT, ↓W_eLkT, ↓WV_nSetS, ↓WV_nRet, ↓WVT_nNin, ↓WV_nAhPut, ↓WV_nPut, ↓WV_nAug, ↓WV_nSetd, ↓WV_nBes, ↓WO_cW, ↓WV_nCallW, ↓WV_nSetW, ↓W_eMethN, ↓W_eMethS, ↓W_eNW, ↓W_eNB, ↓WV_nNil, ↓WV_nSeq, ↓WV_nIf, ↓WVT_nTst, ↓WVT_nAndT, ↓WV_nLift, ↓WV_nFrz, ↓WV_nFor, ↓W_ckB, ↓W_eCallR, ↓W_eCallB, ↓W_eFT, ↓W_eFS, ↓W_eP1, ↓W_sExpB, ↓W_sRetB, ↓W_sSetB, ↓W_sRetZ, ↓W_sKeep, ↓W_sSea, ↓W_sPop, ↓W_eOpB, ↓W_mNew, ↓W_sNewB, ↓W_sNewP, ↓WO_runR, ↓WO_runB, ↓W_eDisp, ↓W_qN, ↓W_qA, ↓W_qJs, ↓W_qJi, ↓W_rt, ↓W_bd, ↓W_eC, ↓W_eV, ↓W_cN, ↓W_cA, ↓W_eP, ↓W_eM, ↓W_eMf, ↓W_ckF, ↓W_ckT, ↓W_eU, ↓W_eUC, ↓W_eTup, ↓W_eLst, ↓W_eDk, ↓W_eDt, ↓W_mB, ↓W_mT, ↓W_mNot, ↓W_mAnd, ↓W_mOr, ↓W_eNot, ↓W_eAnd, ↓W_eOr, ↓W_eIf, ↓W_eTmp, ↓W_eTmpA, ↓W_cNn, ↓W_cAn, ↓W_eTmpL, ↓W_mTmp, ↓W_oN, ↓W_oS, ↓W_eSl, ↓W_eChain, ↓W_sNil, ↓W_sPass, ↓W_sBrk, ↓W_sCnt, ↓W_sRetN, ↓W_sSeq, ↓W_sExp, ↓W_sRet, ↓W_sIf, ↓W_sAsg, ↓W_gsN, ↓W_gsC, ↓W_gT, ↓W_gTl, ↓W_gS, ↓W_sRaise0, ↓W_sRaise1, ↓W_sTryK, ↓W_sCallX, ↓W_hb_im, ↓W_hb_fr, ↓W_hb_bo, ↓W_sPF, ↓W_sPF3, ↓W_sPF4, ↓W_gN_im, ↓W_gN_fr, ↓W_gN_bo, ↓W_frz_im, ↓W_frz_fr, ↓W_frz_bo, ↓W_frzs_nil, ↓W_frzs_cons, ↓W_frzA_nil, ↓W_frzA_t, ↓W_frzA_im, ↓W_frzA_bo, ↓W_callE, ↓W_eCallN, ↓W_eCallF, ↓WO_runF, ↓W_mR1, ↓W_mR2, ↓W_mR3, ↓W_eRev, ↓W_eRev2, ↓W_eRev7, ↓W_eFrz, ↓W_eGetZ, ↓W_eKf, ↓W_eLk, ↓W_mLst, ↓W_mLz, ↓W_mTup, ↓W_mEnum, ↓W_mEnumT, ↓W_mStr, ↓W_mDk, ↓W_mZip, ↓W_sFor, ↓W_sWhl, ↓W_eComp, ↓W_eTupB, ↓W_sAug, ↓W_sAugS, ↓W_eTmpD, ↓W_eTmpU, ↓W_sLkS, ↓W_mDi, ↓W_mZipM, ↓Rw_to4, ↓Rw_from4, ↓W_gT_Fld, ↓W_gT_Gt, ↓W_gT_Lt, ↓W_gT_bD, ↓W_gT_Dn, ↓W_gT_Rw, ↓Fld_i0, ↓Fld_i1, ↓Fld_i2, ↓Fld_i3, ↓Fld_i4, ↓Gt_i0, ↓Gt_i1, ↓Gt_i2, ↓Gt_i3, ↓Lt_i0, ↓Lt_i1, ↓Lt_i2, ↓bD_i0, ↓bD_i1, ↓Dn_i0, ↓Dn_i1, ↓Dn_i2, ↓Dn_i3, ↓Rw_i0, ↓Rw_i1, ↓Rw_i2, ↓Rw_i3, ↓Rw_i4, ↓Rw_i5, ↓Rw_i6, ↓Ter_i0, ↓Ter_i1, imsV_nil, imsV_cons, okSl_im, okSl_em, okSl_ow, nd1_im, kd1_im, int1_im, kv1_im, isNs_nt, noBo, nxV_nx, isEm_em, isNt_nt, thE_nil, thE_cons, isIm_im, isIm_em, isIm_ow, slNm_em, slNm_im, slNm_ow, nm_nd, nodeD_nd, keyW_nd, bkO, bkNO, setBk_nil, setBk_cons, setBk_em, setBk_im, setBk_ow, setBk_io, setBk_bk, insB0, insB1, insB2, insB3, isBk_bk, BkS.nm, Vl.nmB, FnN_sig, Fk_sem, Fk_sig, exV_im, exV_ex, exOf_ex, exOf_nx, tyF, frK_fr, nxK_nx, lstLF, atomV, WO_map, WO_some, WO_none, WB_true, WB_false, WC_true, goes_nx, goes_ct, goes_bk, goes_rt, cut_nx, cut_bk, cut_ct, cut_rt, List.eraseIdx_cons_zero, List.eraseIdx_cons_succ, puts_nil, puts_cons, List.getElem?_cons_zero, List.getElem?_cons_succ, setO, frzO_eq, Option.map_some, putO, putC, List.set_cons_zero, List.set_cons_succ, mutAtD, only, dropM, mutL, PD.cnts, PD.cnt, Vl.hold, tyT, beq_self_eq_true, small_eq, lessL_eq, decide_true, decide_false, List.length_cons, List.length_nil, mkE, List.replicate_succ, List.replicate_zero, List.cons_append, List.nil_append, outE, retV, ioAll, ioIx, brIx, mutAt, updE, disj, nmOut, Vl.nm, D.nm, D.nmC, nms, Sl.mut, Sl.frz, D.atom, List.map_cons, List.map_nil, wipeE, unwipe, calm_em, calm_im, calm_none, List.all_cons, List.all_nil, Bool.and_true, Bool.true_and, Bool.and_self, Bool.or_true, Bool.or_self, Bool.true_or, Bool.false_or, Bool.or_false, Bool.not_true, Bool.not_false, Bool.and_false, Bool.false_and, List.isEmpty_nil, List.isEmpty_cons, List.nodup_cons, List.nodup_nil, List.not_mem_nil, not_false_eq_true, and_self, List.contains_nil, if_true, if_false, Bool.false_eq_true, ite_true, ite_false, rg1, rg2, rg3_10, revLD, rev2D, rev7D, addND, subND, seqL, seqZ, seqT, zipO, addD, subD, mulD, mulTD, divD, modD, powD, negD, ltD, leD, gtD, geD, lenD, absD, minD, maxD, PD.intD, ixD, isnD, appendD, reverseD, extendD, slD, setD, listD, tupleD, tupleBD, truD, at0, at1, at2, at3, at4, at5, at6, at7, sd0, sd1, sd2, sd3, ixN, Int.cast_ofNat_Int, Int.reduceEq, Int.reduceNe, Int.reduceLT, Int.reduceLE, Int.reduceNeg, Int.reduceAdd, Int.reduceSub, Int.reduceMul, Int.reducePow, Nat.reducePow, Int.reduceToNat, Int.reduceAbs, ne_eq, not_true_eq_false, Nat.zero_add, Nat.add_zero, Nat.reduceAdd, Nat.reduceSub, Nat.reduceLT, Nat.reduceLeDiff, Nat.reduceEqDiff, Nat.reduceMul, i63_0, i63_1, zipMO_lt, zipMO_tl, zipMO_ll, List.flatten_cons, List.flatten_nil, Nat.lt_irrefl, reduceCtorEq, Nat.zero_lt_succ, Nat.reduceSubDiff, Nat.sub_zero, Nat.sub_self, Bool.not_eq_true, Bool.not_eq_false, sig__law_box, sig__law_take, sig__law_words, sig__law_row, sig__law_text, sig__law_loose, sig_read_row, sig_same, fl_law_1, fl_law_2, fl_law_3, b_law, $xs,*])
local macro_rules | `(tactic| simp_arith) => `(tactic| simp_arith [W_cN])
theorem readnil_wp {text : Str} {K : Vl × List D → Prop} (hA : As 2000 text) (ht : wsp text = []) (q : K (.im (.tup []), [.str text])) : @WO _ (F_read_row.sem [.str text]) ⟨K⟩ := by
  have hs := split_sem (y := Sp) tl_sp (by decide +kernel) hA (by omega)
  rw [sem_read_row]
  simp_arith [b_read_row, cp_read_row_2, ce_read_row_2, ↓hs]
  refine W_comp_fltA D.str (fun y => !decide (y = Str.ofString "")) (fun y => .str y) (fun y hy => ?_) ?_
  · cases he : decide (y = Str.ofString "") with
    | true => simp_arith [neD_str, he]
    | false => simp_arith [neD_str, he]
  have hwsp : (Txt.split text Sp).filter (fun y => !decide (y = Str.ofString "")) = [] := ht
  rw [hwsp]
  have e0 : eqD [.lst [], .lst []] = some (.im (.bl true)) := rfl
  simp_arith [List.map_nil, ↓e0]
  exact q
def WL : List Str := WS.map Str.ofString
def WL1 : List Str := ["field", "gate", "begin", "rain", "sun", "lend", "let", "shut", "wet", "dry", "nowet", "nodry", "breach", "mend"].map Str.ofString
def WL2 : List Str := ["undo", "stands", "rows", "holder", "owing", "payback", "fault", "plan", "drowns", "lost"].map Str.ofString
theorem wl_app : WL1 ++ WL2 = WL := rfl
theorem wl_wd : ∀ w ∈ WL, Wd 7 w := fun w hw => by
  obtain ⟨s, hs, rfl⟩ := List.mem_map.mp hw
  exact ws_wd s hs
theorem wl1_txt : Str.ofString "field gate begin rain sun lend let shut wet dry nowet nodry breach mend" = Txt.join Sp WL1 := by decide +kernel
theorem wl2_txt : Str.ofString "undo stands rows holder owing payback fault plan drowns lost" = Txt.join Sp WL2 := by decide +kernel
theorem wl1_split : splitD [.str (Str.ofString "field gate begin rain sun lend let shut wet dry nowet nodry breach mend"), .str (Str.ofString " ")] = some (.fr (.lst (WL1.map D.str))) := by
  rw [wl1_txt]
  exact splitW (n := 7) (by decide) (fun w hw => wl_wd w (wl_app ▸ List.mem_append_left _ hw)) (by decide)
theorem wl2_split : splitD [.str (Str.ofString "undo stands rows holder owing payback fault plan drowns lost"), .str (Str.ofString " ")] = some (.fr (.lst (WL2.map D.str))) := by
  rw [wl2_txt]
  exact splitW (n := 7) (by decide) (fun w hw => wl_wd w (wl_app ▸ List.mem_append_right _ hw)) (by decide)
theorem okI_sd {f w : Str} {d : D} (h : OkI f w d) : Sd 4 d := by
  have ht : ∀ xs : List Str, xs.length ≤ 12 → Sd 4 (.tup (xs.map D.str)) := fun xs hl => .inr (.inr ⟨_, .inr rfl, by rw [List.length_map]; omega, fun e he => by
    obtain ⟨x, _, rfl⟩ := List.mem_map.mp he
    exact .inr (.inl ⟨x, rfl⟩)⟩)
  cases h with
  | nm h => exact .inr (.inl ⟨_, rfl⟩)
  | bel h => exact .inr (.inl ⟨_, rfl⟩)
  | no => exact .inr (.inl ⟨_, rfl⟩)
  | num h1 h2 h3 h4 => exact .inl ⟨_, rfl⟩
  | own h1 h2 h3 => exact ht _ h2
  | fld h1 h2 h3 h4 => exact ht _ (by omega)
theorem row_sd {w : Str} {ts : List (Str × Str × D)} (h : RowOk w ts) : Sd 5 (.tup (.str w :: ts.map fun t => t.2.2)) := .inr (.inr ⟨_, .inr rfl, by
    have := h.hl
    rw [List.length_cons, List.length_map]
    omega, fun e he => by
    rcases List.mem_cons.mp he with rfl | he
    · exact .inr (.inl ⟨w, rfl⟩)
    · obtain ⟨t, ht, rfl⟩ := List.mem_map.mp he
      exact okI_sd (h.hi t ht)⟩)
theorem sem_law (ns : List Int) (h : ns.length ≤ 63) : ∃ o, F_law.sem [.sc ns] = some (.im (.bl true), o) := by
  suffices key : @WO _ (F_law.sem [.sc ns]) ⟨fun p => p.1 = .im (.bl true)⟩ by
    obtain ⟨p, h1, h2⟩ := key
    obtain ⟨a, b⟩ := p
    cases h2
    exact ⟨b, h1⟩
  rw [sem_law0]
  have hl1 : WL1.length = 14 := rfl
  have hl2 : WL2.length = 10 := rfl
  have hwm : WL1.map D.str ++ WL2.map D.str = WL.map D.str := by rw [← List.map_append, wl_app]
  have hwl : WL.length = 24 := rfl
  simp_arith [↓wl1_split, ↓wl2_split, List.length_map, hl1, hl2, hwm]
  have hm : ∃ m : Nat, m ≤ 20 ∧ (if (if (ns.length : Int) < 20 then (ns.length : Int) else 20) > 4 then (if (ns.length : Int) < 20 then (ns.length : Int) else 20) else 4) = (m : Int) := by
    by_cases h1 : (ns.length : Int) < 20
    · rw [if_pos h1]
      by_cases h2 : (4 : Int) < (ns.length : Int)
      · exact ⟨ns.length, by omega, if_pos h2⟩
      · exact ⟨4, by omega, if_neg h2⟩
    · rw [if_neg h1]
      exact ⟨20, by omega, rfl⟩
  obtain ⟨m, hm0, hm1⟩ := hm
  rw [hm1]
  refine WO_if (by exact in62_small (by omega) (by omega)) ?_
  simp_arith
  refine W_forE (fun e0 i e => ∃ b c d f g r t u v, e = puts e0 [(1, .ow (.lst (WL.map D.str))), (2, b), (3, c), (4, d), (5, f), (6, g), (7, r), (8, t), (9, u), (10, v)]) ⟨_, _, _, _, _, _, _, _, _, rfl⟩ ?_ ?_
  · rintro i d _ hd ⟨b, c, d0, f, g, r, t, u, v, rfl⟩
    obtain ⟨hi, rfl⟩ := rng_get hd
    rw [Int.toNat_natCast] at hi
    simp_arith
    rw [fb_law_3]
    simp_arith
    refine box_wp (by omega) (by omega) fun l L0 => ?_
    · simp_arith
      refine names_wp (m := 9) L0 (by omega) (by decide) fun xs l1 hxl hnd hxs L1 => ?_
      simp_arith
      refine pick_wp (by assumption) (by omega) (by omega) (by omega) fun r1 l2 r1a r1b L2 => ?_
      simp_arith
      obtain ⟨f1, rfl⟩ := Int.eq_ofNat_of_zero_le r1a
      refine WO_if (by exact in62_small (by omega) (by omega)) ?_
      simp_arith
      refine W_forE (fun e0 i e => ∃ s4 l b c d f g, (s4 = Sl.ow (.lst (xs.map D.str)) ∨ s4 = Sl.im (.lst (xs.map D.str))) ∧ Lf (100 + i * 80) l ∧ e = puts e0 [(1, .ow (.lst (WL.map D.str))), (3, .ow l), (4, s4), (6, b), (7, c), (8, d), (9, f), (10, g)]) ⟨_, l2, _, _, _, _, _, .inl rfl, L2.mono (by omega), rfl⟩ ?_ ?_
      · rintro j d _ hd2 ⟨s4, l3, b2, c2, d2, f2, g2, hs4, L3, rfl⟩
        obtain ⟨hj, rfl⟩ := rng_get hd2
        have hj8 : j < 8 := by simpa using hj
        have hfm : Int.fmod ((f1 : Int) + 5 * (0 + (j : Int))) 24 = ((f1 : Int) + 5 * (j : Int)) % 24 := by
          rw [Int.zero_add]
          exact Int.fmod_eq_emod_of_nonneg _ (by decide)
        have m5 : s64 (5 : Int) = true := by decide
        rcases hs4 with rfl | rfl
        all_goals
          simp_arith
          rw [fb_law_2]
          simp_arith [m5, Bool.true_or]
          refine WO_atA D.str (by omega) (by omega) fun jw w _ hjw => ?_
          have hws : ∃ s ∈ WS, w = Str.ofString s := by
            obtain ⟨s, hs, e⟩ := List.mem_map.mp (List.mem_of_getElem? hjw)
            exact ⟨s, hs, e.symm⟩
          simp_arith
          refine row_wp L3 (by omega) hxl hnd hxs hws fun ts l4 ok L4 => ?_
          have htl := ok.hl
          have hok : ∀ p ∈ (w, D.str w) :: ts.map (fun t => (t.2.1, t.2.2)), Wr p.2 p.1 := fun p hp => by
            rcases List.mem_cons.mp hp with rfl | hp
            · exact .str ok.nm
            · obtain ⟨t, ht, rfl⟩ := List.mem_map.mp hp
              exact (ok.hi t ht).wr
          have hps1 : ((w, D.str w) :: ts.map (fun t => (t.2.1, t.2.2))).map (·.1) = w :: ts.map fun t => t.2.1 := by simp [Function.comp_def]
          have hps2 : ((w, D.str w) :: ts.map (fun t => (t.2.1, t.2.2))).map (·.2) = D.str w :: ts.map fun t => t.2.2 := by simp [Function.comp_def]
          have hwds : ∀ x ∈ w :: ts.map (fun t => t.2.1), Wd 100 x := fun x hx => by
            rcases List.mem_cons.mp hx with rfl | hx
            · exact ok.nm.mono (by decide)
            · obtain ⟨t, ht, rfl⟩ := List.mem_map.mp hx
              exact (ok.hi t ht).wr.wd
          have hT := wsp_join (n := 100) (by simp) hwds
          have hTA : As 2000 (Txt.join Sp (w :: ts.map fun t => t.2.1)) := (join_as sp_as fun x hx => (hwds x hx).as).mono (by
            rw [List.length_cons, List.length_map]
            omega)
          have htx : ∀ K : Vl × List D → Prop, K (.im (.str (Txt.join Sp (w :: ts.map fun t => t.2.1))), [.tup (D.str w :: ts.map fun t => t.2.2)]) → @WO _ (F__law_text.sem [.tup (D.str w :: ts.map fun t => t.2.2)]) ⟨K⟩ := fun K q => by
            have := text_wp (ps := (w, D.str w) :: ts.map fun t => (t.2.1, t.2.2)) (K := K) (by simp) (by rw [List.length_cons, List.length_map]; omega) hok
            rw [hps1, hps2] at this
            exact this q
          simp_arith
          refine htx _ ?_
          simp_arith
          refine loose_wp L4 (by omega) (by simp) hwds (by rw [List.length_cons, List.length_map]; omega) fun x l5 hxA hxw L5 => ?_
          have hTl := hTA.1
          have hxl2 := hxA.1
          generalize hTT : Txt.join Sp (w :: ts.map fun t => t.2.1) = T at *
          have hsd := same_sem 5 _ (row_sd ok)
          have hrd : ∀ z, As 2000 z → wsp z = w :: ts.map (fun t => t.2.1) → ∀ K : Vl × List D → Prop, K (.im (.tup (D.str w :: ts.map fun t => t.2.2)), [.str z]) → @WO _ (F_read_row.sem [.str z]) ⟨K⟩ := fun z hz1 hz2 K q => read_wp hz1 ok.nm hz2 ok.hf ok.hk ok.hl ok.hi ok.hm q
          simp_arith
          refine WO_ifd (by omega) ?_
          simp_arith
          refine WB_cases' (fun hlt => ?_) (fun hlt => ?_)
          all_goals
            simp_arith
            refine W_forE (fun e0 i e => ∃ c, e = puts e0 [(10, c)]) ⟨_, rfl⟩ ?_ ?_
            · rintro k dz _ hdz ⟨c3, rfl⟩
              have hz : ∃ z, dz = .str z ∧ As 2000 z ∧ wsp z = w :: ts.map (fun t => t.2.1) := by
                have this := List.mem_of_getElem? hdz
                rcases List.mem_cons.mp this with rfl | this
                · exact ⟨_, rfl, hTA, hT⟩
                rcases List.mem_cons.mp this with rfl | this
                · first
                  | exact ⟨_, rfl, hxA, hxw⟩
                  | exact ⟨_, rfl, hTA, hT⟩
                rw [List.mem_singleton.mp this]
                exact ⟨_, rfl, hTA, hT⟩
              obtain ⟨z, rfl, hz1, hz2⟩ := hz
              simp_arith
              rw [fb_law_1]
              simp_arith
              refine hrd z hz1 hz2 _ ?_
              simp_arith [hsd]
              exact ⟨_, rfl⟩
            · rintro _ ⟨c3, rfl⟩
              simp_arith
              exact ⟨_, l5, _, _, _, _, _, .inr rfl, L5.mono (by omega), rfl⟩
      · rintro _ ⟨s4, l3, b2, c2, d2, f2, g2, hs4, L3, rfl⟩
        rcases hs4 with rfl | rfl
        all_goals
          rw [rng_len] at L3
          have L3 : Lf 740 l3 := L3.mono (by decide)
          have hn0 : As 2000 (Str.ofString "") := ⟨by decide +kernel, by decide +kernel⟩
          have hn1 : wsp (Str.ofString "") = [] := by decide +kernel
          simp_arith
          refine readnil_wp hn0 hn1 ?_
          simp_arith
          refine pick_wp (by assumption) (by omega) (by omega) (by omega) fun r9 l9 r9a r9b L9 => ?_
          have m0 := mulS_sem (x := Sp) (k := 1 + r9) (by omega) (by omega) (by decide +kernel)
          simp_arith [↓m0]
          have hb : wsp (timesS Sp (1 + r9).toNat) = [] := wsp_of (ws := []) (by
            rw [tl_times]
            have := wdL_sps (1 + r9).toNat []
            rw [List.append_nil] at this
            rw [this, wdL_nil]
            rfl)
          refine readnil_wp ((as_times (1 + r9).toNat).mono (by omega)) hb ?_
          have hsd := same_sem 5 (.lst [.tup [], .tup []]) (.inr (.inr ⟨_, .inl rfl, by decide, fun e he => by
            rcases List.mem_cons.mp he with rfl | he
            · exact .inr (.inr ⟨_, .inr rfl, by decide, fun e he => by cases he⟩)
            · rw [List.mem_singleton.mp he]
              exact .inr (.inr ⟨_, .inr rfl, by decide, fun e he => by cases he⟩)⟩))
          simp_arith [hsd]
          exact ⟨_, _, _, _, _, _, _, _, _, rfl⟩
  · rintro _ ⟨b, c, d0, f, g, r, t, u, v, rfl⟩
    simp_arith
end L_k75
namespace L_k75
open PySem PySem.Spec PyProof.Rows L2 PD
theorem all_mk {l : PySem.W.OpenLaw} {w : World} {K : PySem.W.Frag} {h : Heap} {mg : Str → Option Value} {fa : Addr} (X : K.In h) (G : h.Ns mainGlobals mg) (hfa : mg "law" = some (.ref fa))
    {f__law_box f__law_take f__law_words f__law_text f__law_row f__law_loose f__law_same f_number_in f_is_name f_names_in f_are_rising f_thing_in f_may_be f_read_row f_law : Addr}
    {od__law_box an__law_box od__law_take an__law_take od__law_words an__law_words od__law_text an__law_text od__law_row an__law_row od__law_loose an__law_loose od__law_same an__law_same od_number_in an_number_in od_is_name an_is_name od_names_in an_names_in od_are_rising an_are_rising od_thing_in an_thing_in od_may_be an_may_be od_read_row an_read_row od_law an_law : Option Addr}
    {sl__law_box sl__law_take sl__law_words sl__law_text sl__law_row sl__law_loose sl__law_same sl_number_in sl_is_name sl_names_in sl_are_rising sl_thing_in sl_may_be sl_read_row sl_law : Array (Option Value)}
    {oc__law_box kV__law_box dc__law_box pm__law_box cd__law_box ct__law_box oc__law_take kV__law_take dc__law_take pm__law_take cd__law_take ct__law_take oc__law_words kV__law_words dc__law_words pm__law_words cd__law_words ct__law_words oc__law_text kV__law_text dc__law_text pm__law_text cd__law_text ct__law_text oc__law_row kV__law_row dc__law_row pm__law_row cd__law_row ct__law_row oc__law_loose kV__law_loose dc__law_loose pm__law_loose cd__law_loose ct__law_loose oc__law_same kV__law_same dc__law_same pm__law_same cd__law_same ct__law_same oc_number_in kV_number_in dc_number_in pm_number_in cd_number_in ct_number_in oc_is_name kV_is_name dc_is_name pm_is_name cd_is_name ct_is_name oc_names_in kV_names_in dc_names_in pm_names_in cd_names_in ct_names_in oc_are_rising kV_are_rising dc_are_rising pm_are_rising cd_are_rising ct_are_rising oc_thing_in kV_thing_in dc_thing_in pm_thing_in cd_thing_in ct_thing_in oc_may_be kV_may_be dc_may_be pm_may_be cd_may_be ct_may_be oc_read_row kV_read_row dc_read_row pm_read_row cd_read_row ct_read_row oc_law kV_law dc_law pm_law cd_law ct_law : Value}
    {t_FIGURES : Tok}
    {t_LETTERS : Tok}
    {t_LONGEST : Tok}
    {t_MOST_DAYS : Tok}
    {t_MOST_FIELDS : Tok}
    {t_MOST_RIGHTS : Tok}
    (a__law_box : PySem.W.nsIn K mainGlobals "_law_box" = some (some (.ref f__law_box))) (l__law_box : K.lookup f__law_box = some ⟨oc__law_box, od__law_box, .func (PySem.W.fnOf "_law_box" "_law_box" (defArgs s__law_box) (defBody s__law_box) (defScope s__law_box) .none kV__law_box dc__law_box pm__law_box an__law_box cd__law_box ct__law_box), sl__law_box⟩) (k__law_box : PySem.W.codeIn K cd__law_box "_law_box" = true) (p__law_box : PySem.W.keepIn K (.ref f__law_box) = true)
    (a__law_take : PySem.W.nsIn K mainGlobals "_law_take" = some (some (.ref f__law_take))) (l__law_take : K.lookup f__law_take = some ⟨oc__law_take, od__law_take, .func (PySem.W.fnOf "_law_take" "_law_take" (defArgs s__law_take) (defBody s__law_take) (defScope s__law_take) .none kV__law_take dc__law_take pm__law_take an__law_take cd__law_take ct__law_take), sl__law_take⟩) (k__law_take : PySem.W.codeIn K cd__law_take "_law_take" = true) (p__law_take : PySem.W.keepIn K (.ref f__law_take) = true)
    (a__law_words : PySem.W.nsIn K mainGlobals "_law_words" = some (some (.ref f__law_words))) (l__law_words : K.lookup f__law_words = some ⟨oc__law_words, od__law_words, .func (PySem.W.fnOf "_law_words" "_law_words" (defArgs s__law_words) (defBody s__law_words) (defScope s__law_words) .none kV__law_words dc__law_words pm__law_words an__law_words cd__law_words ct__law_words), sl__law_words⟩) (k__law_words : PySem.W.codeIn K cd__law_words "_law_words" = true) (p__law_words : PySem.W.keepIn K (.ref f__law_words) = true)
    (a__law_text : PySem.W.nsIn K mainGlobals "_law_text" = some (some (.ref f__law_text))) (l__law_text : K.lookup f__law_text = some ⟨oc__law_text, od__law_text, .func (PySem.W.fnOf "_law_text" "_law_text" (defArgs s__law_text) (defBody s__law_text) (defScope s__law_text) .none kV__law_text dc__law_text pm__law_text an__law_text cd__law_text ct__law_text), sl__law_text⟩) (k__law_text : PySem.W.codeIn K cd__law_text "_law_text" = true) (p__law_text : PySem.W.keepIn K (.ref f__law_text) = true)
    (a__law_row : PySem.W.nsIn K mainGlobals "_law_row" = some (some (.ref f__law_row))) (l__law_row : K.lookup f__law_row = some ⟨oc__law_row, od__law_row, .func (PySem.W.fnOf "_law_row" "_law_row" (defArgs s__law_row) (defBody s__law_row) (defScope s__law_row) .none kV__law_row dc__law_row pm__law_row an__law_row cd__law_row ct__law_row), sl__law_row⟩) (k__law_row : PySem.W.codeIn K cd__law_row "_law_row" = true) (p__law_row : PySem.W.keepIn K (.ref f__law_row) = true)
    (a__law_loose : PySem.W.nsIn K mainGlobals "_law_loose" = some (some (.ref f__law_loose))) (l__law_loose : K.lookup f__law_loose = some ⟨oc__law_loose, od__law_loose, .func (PySem.W.fnOf "_law_loose" "_law_loose" (defArgs s__law_loose) (defBody s__law_loose) (defScope s__law_loose) .none kV__law_loose dc__law_loose pm__law_loose an__law_loose cd__law_loose ct__law_loose), sl__law_loose⟩) (k__law_loose : PySem.W.codeIn K cd__law_loose "_law_loose" = true) (p__law_loose : PySem.W.keepIn K (.ref f__law_loose) = true)
    (a__law_same : PySem.W.nsIn K mainGlobals "_law_same" = some (some (.ref f__law_same))) (l__law_same : K.lookup f__law_same = some ⟨oc__law_same, od__law_same, .func (PySem.W.fnOf "_law_same" "_law_same" (defArgs s__law_same) (defBody s__law_same) (defScope s__law_same) .none kV__law_same dc__law_same pm__law_same an__law_same cd__law_same ct__law_same), sl__law_same⟩) (k__law_same : PySem.W.codeIn K cd__law_same "_law_same" = true) (p__law_same : PySem.W.keepIn K (.ref f__law_same) = true)
    (a_number_in : PySem.W.nsIn K mainGlobals "number_in" = some (some (.ref f_number_in))) (l_number_in : K.lookup f_number_in = some ⟨oc_number_in, od_number_in, .func (PySem.W.fnOf "number_in" "number_in" (defArgs s_number_in) (defBody s_number_in) (defScope s_number_in) .none kV_number_in dc_number_in pm_number_in an_number_in cd_number_in ct_number_in), sl_number_in⟩) (k_number_in : PySem.W.codeIn K cd_number_in "number_in" = true) (p_number_in : PySem.W.keepIn K (.ref f_number_in) = true)
    (a_is_name : PySem.W.nsIn K mainGlobals "is_name" = some (some (.ref f_is_name))) (l_is_name : K.lookup f_is_name = some ⟨oc_is_name, od_is_name, .func (PySem.W.fnOf "is_name" "is_name" (defArgs s_is_name) (defBody s_is_name) (defScope s_is_name) .none kV_is_name dc_is_name pm_is_name an_is_name cd_is_name ct_is_name), sl_is_name⟩) (k_is_name : PySem.W.codeIn K cd_is_name "is_name" = true) (p_is_name : PySem.W.keepIn K (.ref f_is_name) = true)
    (a_names_in : PySem.W.nsIn K mainGlobals "names_in" = some (some (.ref f_names_in))) (l_names_in : K.lookup f_names_in = some ⟨oc_names_in, od_names_in, .func (PySem.W.fnOf "names_in" "names_in" (defArgs s_names_in) (defBody s_names_in) (defScope s_names_in) .none kV_names_in dc_names_in pm_names_in an_names_in cd_names_in ct_names_in), sl_names_in⟩) (k_names_in : PySem.W.codeIn K cd_names_in "names_in" = true) (p_names_in : PySem.W.keepIn K (.ref f_names_in) = true)
    (a_are_rising : PySem.W.nsIn K mainGlobals "are_rising" = some (some (.ref f_are_rising))) (l_are_rising : K.lookup f_are_rising = some ⟨oc_are_rising, od_are_rising, .func (PySem.W.fnOf "are_rising" "are_rising" (defArgs s_are_rising) (defBody s_are_rising) (defScope s_are_rising) .none kV_are_rising dc_are_rising pm_are_rising an_are_rising cd_are_rising ct_are_rising), sl_are_rising⟩) (k_are_rising : PySem.W.codeIn K cd_are_rising "are_rising" = true) (p_are_rising : PySem.W.keepIn K (.ref f_are_rising) = true)
    (a_thing_in : PySem.W.nsIn K mainGlobals "thing_in" = some (some (.ref f_thing_in))) (l_thing_in : K.lookup f_thing_in = some ⟨oc_thing_in, od_thing_in, .func (PySem.W.fnOf "thing_in" "thing_in" (defArgs s_thing_in) (defBody s_thing_in) (defScope s_thing_in) .none kV_thing_in dc_thing_in pm_thing_in an_thing_in cd_thing_in ct_thing_in), sl_thing_in⟩) (k_thing_in : PySem.W.codeIn K cd_thing_in "thing_in" = true) (p_thing_in : PySem.W.keepIn K (.ref f_thing_in) = true)
    (a_may_be : PySem.W.nsIn K mainGlobals "may_be" = some (some (.ref f_may_be))) (l_may_be : K.lookup f_may_be = some ⟨oc_may_be, od_may_be, .func (PySem.W.fnOf "may_be" "may_be" (defArgs s_may_be) (defBody s_may_be) (defScope s_may_be) .none kV_may_be dc_may_be pm_may_be an_may_be cd_may_be ct_may_be), sl_may_be⟩) (k_may_be : PySem.W.codeIn K cd_may_be "may_be" = true) (p_may_be : PySem.W.keepIn K (.ref f_may_be) = true)
    (a_read_row : PySem.W.nsIn K mainGlobals "read_row" = some (some (.ref f_read_row))) (l_read_row : K.lookup f_read_row = some ⟨oc_read_row, od_read_row, .func (PySem.W.fnOf "read_row" "read_row" (defArgs s_read_row) (defBody s_read_row) (defScope s_read_row) .none kV_read_row dc_read_row pm_read_row an_read_row cd_read_row ct_read_row), sl_read_row⟩) (k_read_row : PySem.W.codeIn K cd_read_row "read_row" = true) (p_read_row : PySem.W.keepIn K (.ref f_read_row) = true)
    (a_law : PySem.W.nsIn K mainGlobals "law" = some (some (.ref f_law))) (l_law : K.lookup f_law = some ⟨oc_law, od_law, .func (PySem.W.fnOf "law" "law" (defArgs s_law) (defBody s_law) (defScope s_law) .none kV_law dc_law pm_law an_law cd_law ct_law), sl_law⟩) (k_law : PySem.W.codeIn K cd_law "law" = true) (p_law : PySem.W.keepIn K (.ref f_law) = true)
    (c_FIGURES : PySem.W.nsIn K mainGlobals "FIGURES" = some (some (.str "0123456789" t_FIGURES)))
    (c_LETTERS : PySem.W.nsIn K mainGlobals "LETTERS" = some (some (.str "abcdefghijklmnopqrstuvwxyz" t_LETTERS)))
    (c_LONGEST : PySem.W.nsIn K mainGlobals "LONGEST" = some (some (.int (6) t_LONGEST)))
    (c_MOST_DAYS : PySem.W.nsIn K mainGlobals "MOST_DAYS" = some (some (.int (10) t_MOST_DAYS)))
    (c_MOST_FIELDS : PySem.W.nsIn K mainGlobals "MOST_FIELDS" = some (some (.int (8) t_MOST_FIELDS)))
    (c_MOST_RIGHTS : PySem.W.nsIn K mainGlobals "MOST_RIGHTS" = some (some (.int (12) t_MOST_RIGHTS)))
    (z_abs : PySem.W.nsIn K mainGlobals "abs" = some none)
    (z_all : PySem.W.nsIn K mainGlobals "all" = some none)
    (z_bool : PySem.W.nsIn K mainGlobals "bool" = some none)
    (z_int : PySem.W.nsIn K mainGlobals "int" = some none)
    (z_isinstance : PySem.W.nsIn K mainGlobals "isinstance" = some none)
    (z_len : PySem.W.nsIn K mainGlobals "len" = some none)
    (z_list : PySem.W.nsIn K mainGlobals "list" = some none)
    (z_max : PySem.W.nsIn K mainGlobals "max" = some none)
    (z_min : PySem.W.nsIn K mainGlobals "min" = some none)
    (z_range : PySem.W.nsIn K mainGlobals "range" = some none)
    (z_sorted : PySem.W.nsIn K mainGlobals "sorted" = some none)
    (z_str : PySem.W.nsIn K mainGlobals "str" = some none)
    (z_tuple : PySem.W.nsIn K mainGlobals "tuple" = some none)
    (z_zip : PySem.W.nsIn K mainGlobals "zip" = some none)
    {ka_FORMS : Addr} {ke_FORMS : Array DictEntry} {kn_FORMS : Nat} (k1_FORMS : PySem.W.nsIn K mainGlobals "FORMS" = some (some (.ref ka_FORMS))) (k2_FORMS : K.lookup ka_FORMS = some ⟨.type "dict", none, .dict ke_FORMS kn_FORMS, #[]⟩) (k4_FORMS : (ka_FORMS == sysModules) = false)
    {R_FORMS_0 R_FORMS_1 R_FORMS_2 R_FORMS_3 R_FORMS_4 R_FORMS_5 R_FORMS_6 R_FORMS_7 R_FORMS_8 R_FORMS_9 R_FORMS_10 R_FORMS_11 R_FORMS_12 R_FORMS_13 R_FORMS_14 R_FORMS_15 R_FORMS_16 R_FORMS_17 R_FORMS_18 R_FORMS_19 R_FORMS_20 R_FORMS_21 R_FORMS_22 R_FORMS_23 : Addr} {oo_FORMS_0 oo_FORMS_1 oo_FORMS_2 oo_FORMS_3 oo_FORMS_4 oo_FORMS_5 oo_FORMS_6 oo_FORMS_7 oo_FORMS_8 oo_FORMS_9 oo_FORMS_10 oo_FORMS_11 oo_FORMS_12 oo_FORMS_13 oo_FORMS_14 oo_FORMS_15 oo_FORMS_16 oo_FORMS_17 oo_FORMS_18 oo_FORMS_19 oo_FORMS_20 oo_FORMS_21 oo_FORMS_22 oo_FORMS_23 : Option Addr} {mm_FORMS_0 mm_FORMS_1 mm_FORMS_2 mm_FORMS_3 mm_FORMS_4 mm_FORMS_5 mm_FORMS_6 mm_FORMS_7 mm_FORMS_8 mm_FORMS_9 mm_FORMS_10 mm_FORMS_11 mm_FORMS_12 mm_FORMS_13 mm_FORMS_14 mm_FORMS_15 mm_FORMS_16 mm_FORMS_17 mm_FORMS_18 mm_FORMS_19 mm_FORMS_20 mm_FORMS_21 mm_FORMS_22 mm_FORMS_23 : Nat} {ss_FORMS_0 ss_FORMS_1 ss_FORMS_2 ss_FORMS_3 ss_FORMS_4 ss_FORMS_5 ss_FORMS_6 ss_FORMS_7 ss_FORMS_8 ss_FORMS_9 ss_FORMS_10 ss_FORMS_11 ss_FORMS_12 ss_FORMS_13 ss_FORMS_14 ss_FORMS_15 ss_FORMS_16 ss_FORMS_17 ss_FORMS_18 ss_FORMS_19 ss_FORMS_20 ss_FORMS_21 ss_FORMS_22 ss_FORMS_23 : Array (Option Value)} {ob_FORMS_0 ob_FORMS_1 ob_FORMS_2 ob_FORMS_3 ob_FORMS_4 ob_FORMS_5 ob_FORMS_6 ob_FORMS_7 ob_FORMS_8 ob_FORMS_9 ob_FORMS_10 ob_FORMS_11 ob_FORMS_12 ob_FORMS_13 ob_FORMS_14 ob_FORMS_15 ob_FORMS_16 ob_FORMS_17 ob_FORMS_18 ob_FORMS_19 ob_FORMS_20 ob_FORMS_21 ob_FORMS_22 ob_FORMS_23 : Obj}
    {tt_FORMS_0_0 tt_FORMS_0_1 tt_FORMS_0_2 tt_FORMS_0_3 tt_FORMS_0_4 tt_FORMS_1_0 tt_FORMS_1_1 tt_FORMS_1_2 tt_FORMS_1_3 tt_FORMS_3_0 tt_FORMS_3_1 tt_FORMS_4_0 tt_FORMS_4_1 tt_FORMS_5_0 tt_FORMS_5_1 tt_FORMS_5_2 tt_FORMS_5_3 tt_FORMS_6_0 tt_FORMS_6_1 tt_FORMS_6_2 tt_FORMS_6_3 tt_FORMS_7_0 tt_FORMS_7_1 tt_FORMS_7_2 tt_FORMS_8_0 tt_FORMS_8_1 tt_FORMS_8_2 tt_FORMS_8_3 tt_FORMS_9_0 tt_FORMS_9_1 tt_FORMS_9_2 tt_FORMS_10_0 tt_FORMS_10_1 tt_FORMS_10_2 tt_FORMS_10_3 tt_FORMS_11_0 tt_FORMS_11_1 tt_FORMS_11_2 tt_FORMS_12_0 tt_FORMS_12_1 tt_FORMS_12_2 tt_FORMS_13_0 tt_FORMS_13_1 tt_FORMS_15_0 tt_FORMS_16_0 tt_FORMS_16_1 tt_FORMS_17_0 tt_FORMS_17_1 tt_FORMS_19_0 tt_FORMS_19_1 tt_FORMS_19_2 tt_FORMS_19_3 tt_FORMS_22_0 tt_FORMS_22_1 tt_FORMS_22_2 : Tok}
    {ka_BOUNDS : Addr} {ke_BOUNDS : Array DictEntry} {kn_BOUNDS : Nat} (k1_BOUNDS : PySem.W.nsIn K mainGlobals "BOUNDS" = some (some (.ref ka_BOUNDS))) (k2_BOUNDS : K.lookup ka_BOUNDS = some ⟨.type "dict", none, .dict ke_BOUNDS kn_BOUNDS, #[]⟩) (k4_BOUNDS : (ka_BOUNDS == sysModules) = false)
    {R_BOUNDS_0 R_BOUNDS_1 R_BOUNDS_2 R_BOUNDS_3 : Addr} {oo_BOUNDS_0 oo_BOUNDS_1 oo_BOUNDS_2 oo_BOUNDS_3 : Option Addr} {mm_BOUNDS_0 mm_BOUNDS_1 mm_BOUNDS_2 mm_BOUNDS_3 : Nat} {ss_BOUNDS_0 ss_BOUNDS_1 ss_BOUNDS_2 ss_BOUNDS_3 : Array (Option Value)} {ob_BOUNDS_0 ob_BOUNDS_1 ob_BOUNDS_2 ob_BOUNDS_3 : Obj}
    {tt_BOUNDS_0_0 tt_BOUNDS_0_1 tt_BOUNDS_1_0 tt_BOUNDS_1_1 tt_BOUNDS_2_0 tt_BOUNDS_2_1 tt_BOUNDS_3_0 tt_BOUNDS_3_1 : Tok}
    (k3_FORMS : PySem.W.KeysLit w.params ke_FORMS.toList) (k5_FORMS : EntA ke_FORMS.toList ["field", "gate", "begin", "rain", "sun", "lend", "let", "shut", "wet", "dry", "nowet", "nodry", "breach", "mend", "undo", "stands", "rows", "holder", "owing", "payback", "fault", "plan", "drowns", "lost"] [R_FORMS_0, R_FORMS_1, R_FORMS_2, R_FORMS_3, R_FORMS_4, R_FORMS_5, R_FORMS_6, R_FORMS_7, R_FORMS_8, R_FORMS_9, R_FORMS_10, R_FORMS_11, R_FORMS_12, R_FORMS_13, R_FORMS_14, R_FORMS_15, R_FORMS_16, R_FORMS_17, R_FORMS_18, R_FORMS_19, R_FORMS_20, R_FORMS_21, R_FORMS_22, R_FORMS_23])
    (k3_BOUNDS : PySem.W.KeysLit w.params ke_BOUNDS.toList) (k5_BOUNDS : EntA ke_BOUNDS.toList ["day", "water", "sky", "level"] [R_BOUNDS_0, R_BOUNDS_1, R_BOUNDS_2, R_BOUNDS_3])
    (kr_FORMS_0 : K.lookup R_FORMS_0 = some ob_FORMS_0) (u2_kr_FORMS_0 : ob_FORMS_0 = ⟨.type "tuple", oo_FORMS_0, .seq #[(.str "name" tt_FORMS_0_0), (.str "name" tt_FORMS_0_1), (.str "below" tt_FORMS_0_2), (.str "water" tt_FORMS_0_3), (.str "sky" tt_FORMS_0_4)] mm_FORMS_0, ss_FORMS_0⟩)
    (kr_FORMS_1 : K.lookup R_FORMS_1 = some ob_FORMS_1) (u2_kr_FORMS_1 : ob_FORMS_1 = ⟨.type "tuple", oo_FORMS_1, .seq #[(.str "name" tt_FORMS_1_0), (.str "water" tt_FORMS_1_1), (.str "owners" tt_FORMS_1_2), (.str "fields" tt_FORMS_1_3)] mm_FORMS_1, ss_FORMS_1⟩)
    (kr_FORMS_2 : K.lookup R_FORMS_2 = some ob_FORMS_2) (u2_kr_FORMS_2 : ob_FORMS_2 = ⟨.type "tuple", oo_FORMS_2, .seq #[] mm_FORMS_2, ss_FORMS_2⟩)
    (kr_FORMS_3 : K.lookup R_FORMS_3 = some ob_FORMS_3) (u2_kr_FORMS_3 : ob_FORMS_3 = ⟨.type "tuple", oo_FORMS_3, .seq #[(.str "day" tt_FORMS_3_0), (.str "sky" tt_FORMS_3_1)] mm_FORMS_3, ss_FORMS_3⟩)
    (kr_FORMS_4 : K.lookup R_FORMS_4 = some ob_FORMS_4) (u2_kr_FORMS_4 : ob_FORMS_4 = ⟨.type "tuple", oo_FORMS_4, .seq #[(.str "day" tt_FORMS_4_0), (.str "sky" tt_FORMS_4_1)] mm_FORMS_4, ss_FORMS_4⟩)
    (kr_FORMS_5 : K.lookup R_FORMS_5 = some ob_FORMS_5) (u2_kr_FORMS_5 : ob_FORMS_5 = ⟨.type "tuple", oo_FORMS_5, .seq #[(.str "day" tt_FORMS_5_0), (.str "name" tt_FORMS_5_1), (.str "name" tt_FORMS_5_2), (.str "name" tt_FORMS_5_3)] mm_FORMS_5, ss_FORMS_5⟩)
    (kr_FORMS_6 : K.lookup R_FORMS_6 = some ob_FORMS_6) (u2_kr_FORMS_6 : ob_FORMS_6 = ⟨.type "tuple", oo_FORMS_6, .seq #[(.str "day" tt_FORMS_6_0), (.str "name" tt_FORMS_6_1), (.str "name" tt_FORMS_6_2), (.str "water" tt_FORMS_6_3)] mm_FORMS_6, ss_FORMS_6⟩)
    (kr_FORMS_7 : K.lookup R_FORMS_7 = some ob_FORMS_7) (u2_kr_FORMS_7 : ob_FORMS_7 = ⟨.type "tuple", oo_FORMS_7, .seq #[(.str "day" tt_FORMS_7_0), (.str "name" tt_FORMS_7_1), (.str "name" tt_FORMS_7_2)] mm_FORMS_7, ss_FORMS_7⟩)
    (kr_FORMS_8 : K.lookup R_FORMS_8 = some ob_FORMS_8) (u2_kr_FORMS_8 : ob_FORMS_8 = ⟨.type "tuple", oo_FORMS_8, .seq #[(.str "name" tt_FORMS_8_0), (.str "day" tt_FORMS_8_1), (.str "day" tt_FORMS_8_2), (.str "water" tt_FORMS_8_3)] mm_FORMS_8, ss_FORMS_8⟩)
    (kr_FORMS_9 : K.lookup R_FORMS_9 = some ob_FORMS_9) (u2_kr_FORMS_9 : ob_FORMS_9 = ⟨.type "tuple", oo_FORMS_9, .seq #[(.str "name" tt_FORMS_9_0), (.str "day" tt_FORMS_9_1), (.str "day" tt_FORMS_9_2)] mm_FORMS_9, ss_FORMS_9⟩)
    (kr_FORMS_10 : K.lookup R_FORMS_10 = some ob_FORMS_10) (u2_kr_FORMS_10 : ob_FORMS_10 = ⟨.type "tuple", oo_FORMS_10, .seq #[(.str "name" tt_FORMS_10_0), (.str "day" tt_FORMS_10_1), (.str "day" tt_FORMS_10_2), (.str "water" tt_FORMS_10_3)] mm_FORMS_10, ss_FORMS_10⟩)
    (kr_FORMS_11 : K.lookup R_FORMS_11 = some ob_FORMS_11) (u2_kr_FORMS_11 : ob_FORMS_11 = ⟨.type "tuple", oo_FORMS_11, .seq #[(.str "name" tt_FORMS_11_0), (.str "day" tt_FORMS_11_1), (.str "day" tt_FORMS_11_2)] mm_FORMS_11, ss_FORMS_11⟩)
    (kr_FORMS_12 : K.lookup R_FORMS_12 = some ob_FORMS_12) (u2_kr_FORMS_12 : ob_FORMS_12 = ⟨.type "tuple", oo_FORMS_12, .seq #[(.str "day" tt_FORMS_12_0), (.str "name" tt_FORMS_12_1), (.str "level" tt_FORMS_12_2)] mm_FORMS_12, ss_FORMS_12⟩)
    (kr_FORMS_13 : K.lookup R_FORMS_13 = some ob_FORMS_13) (u2_kr_FORMS_13 : ob_FORMS_13 = ⟨.type "tuple", oo_FORMS_13, .seq #[(.str "day" tt_FORMS_13_0), (.str "name" tt_FORMS_13_1)] mm_FORMS_13, ss_FORMS_13⟩)
    (kr_FORMS_14 : K.lookup R_FORMS_14 = some ob_FORMS_14) (u2_kr_FORMS_14 : ob_FORMS_14 = ⟨.type "tuple", oo_FORMS_14, .seq #[] mm_FORMS_14, ss_FORMS_14⟩)
    (kr_FORMS_15 : K.lookup R_FORMS_15 = some ob_FORMS_15) (u2_kr_FORMS_15 : ob_FORMS_15 = ⟨.type "tuple", oo_FORMS_15, .seq #[(.str "day" tt_FORMS_15_0)] mm_FORMS_15, ss_FORMS_15⟩)
    (kr_FORMS_16 : K.lookup R_FORMS_16 = some ob_FORMS_16) (u2_kr_FORMS_16 : ob_FORMS_16 = ⟨.type "tuple", oo_FORMS_16, .seq #[(.str "day" tt_FORMS_16_0), (.str "name" tt_FORMS_16_1)] mm_FORMS_16, ss_FORMS_16⟩)
    (kr_FORMS_17 : K.lookup R_FORMS_17 = some ob_FORMS_17) (u2_kr_FORMS_17 : ob_FORMS_17 = ⟨.type "tuple", oo_FORMS_17, .seq #[(.str "day" tt_FORMS_17_0), (.str "name" tt_FORMS_17_1)] mm_FORMS_17, ss_FORMS_17⟩)
    (kr_FORMS_18 : K.lookup R_FORMS_18 = some ob_FORMS_18) (u2_kr_FORMS_18 : ob_FORMS_18 = ⟨.type "tuple", oo_FORMS_18, .seq #[] mm_FORMS_18, ss_FORMS_18⟩)
    (kr_FORMS_19 : K.lookup R_FORMS_19 = some ob_FORMS_19) (u2_kr_FORMS_19 : ob_FORMS_19 = ⟨.type "tuple", oo_FORMS_19, .seq #[(.str "name" tt_FORMS_19_0), (.str "name" tt_FORMS_19_1), (.str "day" tt_FORMS_19_2), (.str "day" tt_FORMS_19_3)] mm_FORMS_19, ss_FORMS_19⟩)
    (kr_FORMS_20 : K.lookup R_FORMS_20 = some ob_FORMS_20) (u2_kr_FORMS_20 : ob_FORMS_20 = ⟨.type "tuple", oo_FORMS_20, .seq #[] mm_FORMS_20, ss_FORMS_20⟩)
    (kr_FORMS_21 : K.lookup R_FORMS_21 = some ob_FORMS_21) (u2_kr_FORMS_21 : ob_FORMS_21 = ⟨.type "tuple", oo_FORMS_21, .seq #[] mm_FORMS_21, ss_FORMS_21⟩)
    (kr_FORMS_22 : K.lookup R_FORMS_22 = some ob_FORMS_22) (u2_kr_FORMS_22 : ob_FORMS_22 = ⟨.type "tuple", oo_FORMS_22, .seq #[(.str "day" tt_FORMS_22_0), (.str "name" tt_FORMS_22_1), (.str "level" tt_FORMS_22_2)] mm_FORMS_22, ss_FORMS_22⟩)
    (kr_FORMS_23 : K.lookup R_FORMS_23 = some ob_FORMS_23) (u2_kr_FORMS_23 : ob_FORMS_23 = ⟨.type "tuple", oo_FORMS_23, .seq #[] mm_FORMS_23, ss_FORMS_23⟩)
    (kr_BOUNDS_0 : K.lookup R_BOUNDS_0 = some ob_BOUNDS_0) (u2_kr_BOUNDS_0 : ob_BOUNDS_0 = ⟨.type "tuple", oo_BOUNDS_0, .seq #[(.int (0) tt_BOUNDS_0_0), (.int (39) tt_BOUNDS_0_1)] mm_BOUNDS_0, ss_BOUNDS_0⟩)
    (kr_BOUNDS_1 : K.lookup R_BOUNDS_1 = some ob_BOUNDS_1) (u2_kr_BOUNDS_1 : ob_BOUNDS_1 = ⟨.type "tuple", oo_BOUNDS_1, .seq #[(.int (1) tt_BOUNDS_1_0), (.int (999) tt_BOUNDS_1_1)] mm_BOUNDS_1, ss_BOUNDS_1⟩)
    (kr_BOUNDS_2 : K.lookup R_BOUNDS_2 = some ob_BOUNDS_2) (u2_kr_BOUNDS_2 : ob_BOUNDS_2 = ⟨.type "tuple", oo_BOUNDS_2, .seq #[(.int (0) tt_BOUNDS_2_0), (.int (99) tt_BOUNDS_2_1)] mm_BOUNDS_2, ss_BOUNDS_2⟩)
    (kr_BOUNDS_3 : K.lookup R_BOUNDS_3 = some ob_BOUNDS_3) (u2_kr_BOUNDS_3 : ob_BOUNDS_3 = ⟨.type "tuple", oo_BOUNDS_3, .seq #[(.int (0) tt_BOUNDS_3_0), (.int (998) tt_BOUNDS_3_1)] mm_BOUNDS_3, ss_BOUNDS_3⟩) :
    ∃ (fd : FuncData) (L : List (Str × Addr)), (∀ (s : Shared) (u : Value), BindsTo s fd ⟨[u], []⟩ [("_law_script", u)]) ∧ ∀ base : Heap, K.In base → base.Ns mainGlobals mg → FnG ⟨l.prog, w, K, mg, base⟩ 7 fa fd ["_law_script"] (@spF ⟨[], clsL L, none, none, fun _ => none⟩ K F_law) := by
  have e := hfa.symm.trans (PySem.W.mg_of X G a_law)
  cases e
  refine ⟨PySem.W.fnOf "law" "law" (defArgs s_law) (defBody s_law) (defScope s_law) .none kV_law dc_law pm_law an_law cd_law ct_law, (ky_FORMS).zip [R_FORMS_0, R_FORMS_1, R_FORMS_2, R_FORMS_3, R_FORMS_4, R_FORMS_5, R_FORMS_6, R_FORMS_7, R_FORMS_8, R_FORMS_9, R_FORMS_10, R_FORMS_11, R_FORMS_12, R_FORMS_13, R_FORMS_14, R_FORMS_15, R_FORMS_16, R_FORMS_17, R_FORMS_18, R_FORMS_19, R_FORMS_20, R_FORMS_21, R_FORMS_22, R_FORMS_23], fun s v => .of_eq rfl, fun base _ _ => ?_⟩
  letI : TabL := ⟨[], clsL ((ky_FORMS).zip [R_FORMS_0, R_FORMS_1, R_FORMS_2, R_FORMS_3, R_FORMS_4, R_FORMS_5, R_FORMS_6, R_FORMS_7, R_FORMS_8, R_FORMS_9, R_FORMS_10, R_FORMS_11, R_FORMS_12, R_FORMS_13, R_FORMS_14, R_FORMS_15, R_FORMS_16, R_FORMS_17, R_FORMS_18, R_FORMS_19, R_FORMS_20, R_FORMS_21, R_FORMS_22, R_FORMS_23]), none, none, fun _ => none⟩
  refine fg_law ⟨?d__law_box, ?d__law_take, ?d__law_words, ?d__law_text, ?d__law_row, ?d__law_loose, ?d__law_same, ?d_number_in, ?d_is_name, ?d_names_in, ?d_are_rising, ?d_thing_in, ?d_may_be, ?d_read_row, ?c_FIGURES, ?c_LETTERS, ?c_LONGEST, ?c_MOST_DAYS, ?c_MOST_FIELDS, ?c_MOST_RIGHTS, ?kc_FORMS, ?tr_FORMS, ?kp_BOUNDS, ?z_abs, ?z_all, ?z_bool, ?z_int, ?z_isinstance, ?z_len, ?z_list, ?z_max, ?z_min, ?z_range, ?z_sorted, ?z_str, ?z_tuple, ?z_zip⟩ (fun_mk (st := s_law) l_law k_law p_law)
  case d__law_box => exact ⟨f__law_box, _, PySem.W.mg_of X G a__law_box, fun_mk (st := s__law_box) l__law_box k__law_box p__law_box, (fun_mk (st := s__law_box) l__law_box k__law_box p__law_box).binds fun _ _ _ _ _ _ us hl => match us, hl with | [_, _], _ => rfl⟩
  case d__law_take => exact ⟨f__law_take, _, PySem.W.mg_of X G a__law_take, fun_mk (st := s__law_take) l__law_take k__law_take p__law_take, (fun_mk (st := s__law_take) l__law_take k__law_take p__law_take).binds fun _ _ _ _ _ _ us hl => match us, hl with | [_, _], _ => rfl⟩
  case d__law_words => exact ⟨f__law_words, _, PySem.W.mg_of X G a__law_words, fun_mk (st := s__law_words) l__law_words k__law_words p__law_words, (fun_mk (st := s__law_words) l__law_words k__law_words p__law_words).binds fun _ _ _ _ _ _ us hl => match us, hl with | [_, _], _ => rfl⟩
  case d__law_text => exact ⟨f__law_text, _, PySem.W.mg_of X G a__law_text, fun_mk (st := s__law_text) l__law_text k__law_text p__law_text, (fun_mk (st := s__law_text) l__law_text k__law_text p__law_text).binds fun _ _ _ _ _ _ us hl => match us, hl with | [_], _ => rfl⟩
  case d__law_row => exact ⟨f__law_row, _, PySem.W.mg_of X G a__law_row, fun_mk (st := s__law_row) l__law_row k__law_row p__law_row, (fun_mk (st := s__law_row) l__law_row k__law_row p__law_row).binds fun _ _ _ _ _ _ us hl => match us, hl with | [_, _, _], _ => rfl⟩
  case d__law_loose => exact ⟨f__law_loose, _, PySem.W.mg_of X G a__law_loose, fun_mk (st := s__law_loose) l__law_loose k__law_loose p__law_loose, (fun_mk (st := s__law_loose) l__law_loose k__law_loose p__law_loose).binds fun _ _ _ _ _ _ us hl => match us, hl with | [_, _], _ => rfl⟩
  case d__law_same => exact ⟨f__law_same, _, PySem.W.mg_of X G a__law_same, fun_mk (st := s__law_same) l__law_same k__law_same p__law_same, (fun_mk (st := s__law_same) l__law_same k__law_same p__law_same).binds fun _ _ _ _ _ _ us hl => match us, hl with | [_, _], _ => rfl⟩
  case d_number_in => exact ⟨f_number_in, _, PySem.W.mg_of X G a_number_in, fun_mk (st := s_number_in) l_number_in k_number_in p_number_in, (fun_mk (st := s_number_in) l_number_in k_number_in p_number_in).binds fun _ _ _ _ _ _ us hl => match us, hl with | [_, _, _], _ => rfl⟩
  case d_is_name => exact ⟨f_is_name, _, PySem.W.mg_of X G a_is_name, fun_mk (st := s_is_name) l_is_name k_is_name p_is_name, (fun_mk (st := s_is_name) l_is_name k_is_name p_is_name).binds fun _ _ _ _ _ _ us hl => match us, hl with | [_], _ => rfl⟩
  case d_names_in => exact ⟨f_names_in, _, PySem.W.mg_of X G a_names_in, fun_mk (st := s_names_in) l_names_in k_names_in p_names_in, (fun_mk (st := s_names_in) l_names_in k_names_in p_names_in).binds fun _ _ _ _ _ _ us hl => match us, hl with | [_, _], _ => rfl⟩
  case d_are_rising => exact ⟨f_are_rising, _, PySem.W.mg_of X G a_are_rising, fun_mk (st := s_are_rising) l_are_rising k_are_rising p_are_rising, (fun_mk (st := s_are_rising) l_are_rising k_are_rising p_are_rising).binds fun _ _ _ _ _ _ us hl => match us, hl with | [_], _ => rfl⟩
  case d_thing_in => exact ⟨f_thing_in, _, PySem.W.mg_of X G a_thing_in, fun_mk (st := s_thing_in) l_thing_in k_thing_in p_thing_in, (fun_mk (st := s_thing_in) l_thing_in k_thing_in p_thing_in).binds fun _ _ _ _ _ _ us hl => match us, hl with | [_, _], _ => rfl⟩
  case d_may_be => exact ⟨f_may_be, _, PySem.W.mg_of X G a_may_be, fun_mk (st := s_may_be) l_may_be k_may_be p_may_be, (fun_mk (st := s_may_be) l_may_be k_may_be p_may_be).binds fun _ _ _ _ _ _ us hl => match us, hl with | [_], _ => rfl⟩
  case d_read_row => exact ⟨f_read_row, _, PySem.W.mg_of X G a_read_row, fun_mk (st := s_read_row) l_read_row k_read_row p_read_row, (fun_mk (st := s_read_row) l_read_row k_read_row p_read_row).binds fun _ _ _ _ _ _ us hl => match us, hl with | [_], _ => rfl⟩
  case c_FIGURES => exact ⟨.str "0123456789", _, PySem.W.mg_of X G c_FIGURES, ⟨t_FIGURES, rfl⟩, fun _ => .str _ (by decide +kernel)⟩
  case c_LETTERS => exact ⟨.str "abcdefghijklmnopqrstuvwxyz", _, PySem.W.mg_of X G c_LETTERS, ⟨t_LETTERS, rfl⟩, fun _ => .str _ (by decide +kernel)⟩
  case c_LONGEST => exact ⟨.int (6), _, PySem.W.mg_of X G c_LONGEST, ⟨t_LONGEST, rfl⟩, fun _ => .int _⟩
  case c_MOST_DAYS => exact ⟨.int (10), _, PySem.W.mg_of X G c_MOST_DAYS, ⟨t_MOST_DAYS, rfl⟩, fun _ => .int _⟩
  case c_MOST_FIELDS => exact ⟨.int (8), _, PySem.W.mg_of X G c_MOST_FIELDS, ⟨t_MOST_FIELDS, rfl⟩, fun _ => .int _⟩
  case c_MOST_RIGHTS => exact ⟨.int (12), _, PySem.W.mg_of X G c_MOST_RIGHTS, ⟨t_MOST_RIGHTS, rfl⟩, fun _ => .int _⟩
  case kc_FORMS => exact ⟨⟨ka_FORMS, ke_FORMS, kn_FORMS, PySem.W.mg_of X G k1_FORMS, k2_FORMS, k3_FORMS, k4_FORMS, entC_of k5_FORMS (show ky_FORMS.Nodup by decide +kernel)⟩⟩
  case tr_FORMS => exact tabR_of rfl (show ky_FORMS.Nodup by decide +kernel) (.cons (rowAt_mk kr_FORMS_0 u2_kr_FORMS_0 (.cons ⟨_, rfl⟩ (.cons ⟨_, rfl⟩ (.cons ⟨_, rfl⟩ (.cons ⟨_, rfl⟩ (.cons ⟨_, rfl⟩ (.nil)))))) (by show 5 ≤ sizeLine; decide) (by decide +kernel)) (.cons (rowAt_mk kr_FORMS_1 u2_kr_FORMS_1 (.cons ⟨_, rfl⟩ (.cons ⟨_, rfl⟩ (.cons ⟨_, rfl⟩ (.cons ⟨_, rfl⟩ (.nil))))) (by show 4 ≤ sizeLine; decide) (by decide +kernel)) (.cons (rowAt_mk kr_FORMS_2 u2_kr_FORMS_2 (.nil) (by show 0 ≤ sizeLine; decide) (by decide +kernel)) (.cons (rowAt_mk kr_FORMS_3 u2_kr_FORMS_3 (.cons ⟨_, rfl⟩ (.cons ⟨_, rfl⟩ (.nil))) (by show 2 ≤ sizeLine; decide) (by decide +kernel)) (.cons (rowAt_mk kr_FORMS_4 u2_kr_FORMS_4 (.cons ⟨_, rfl⟩ (.cons ⟨_, rfl⟩ (.nil))) (by show 2 ≤ sizeLine; decide) (by decide +kernel)) (.cons (rowAt_mk kr_FORMS_5 u2_kr_FORMS_5 (.cons ⟨_, rfl⟩ (.cons ⟨_, rfl⟩ (.cons ⟨_, rfl⟩ (.cons ⟨_, rfl⟩ (.nil))))) (by show 4 ≤ sizeLine; decide) (by decide +kernel)) (.cons (rowAt_mk kr_FORMS_6 u2_kr_FORMS_6 (.cons ⟨_, rfl⟩ (.cons ⟨_, rfl⟩ (.cons ⟨_, rfl⟩ (.cons ⟨_, rfl⟩ (.nil))))) (by show 4 ≤ sizeLine; decide) (by decide +kernel)) (.cons (rowAt_mk kr_FORMS_7 u2_kr_FORMS_7 (.cons ⟨_, rfl⟩ (.cons ⟨_, rfl⟩ (.cons ⟨_, rfl⟩ (.nil)))) (by show 3 ≤ sizeLine; decide) (by decide +kernel)) (.cons (rowAt_mk kr_FORMS_8 u2_kr_FORMS_8 (.cons ⟨_, rfl⟩ (.cons ⟨_, rfl⟩ (.cons ⟨_, rfl⟩ (.cons ⟨_, rfl⟩ (.nil))))) (by show 4 ≤ sizeLine; decide) (by decide +kernel)) (.cons (rowAt_mk kr_FORMS_9 u2_kr_FORMS_9 (.cons ⟨_, rfl⟩ (.cons ⟨_, rfl⟩ (.cons ⟨_, rfl⟩ (.nil)))) (by show 3 ≤ sizeLine; decide) (by decide +kernel)) (.cons (rowAt_mk kr_FORMS_10 u2_kr_FORMS_10 (.cons ⟨_, rfl⟩ (.cons ⟨_, rfl⟩ (.cons ⟨_, rfl⟩ (.cons ⟨_, rfl⟩ (.nil))))) (by show 4 ≤ sizeLine; decide) (by decide +kernel)) (.cons (rowAt_mk kr_FORMS_11 u2_kr_FORMS_11 (.cons ⟨_, rfl⟩ (.cons ⟨_, rfl⟩ (.cons ⟨_, rfl⟩ (.nil)))) (by show 3 ≤ sizeLine; decide) (by decide +kernel)) (.cons (rowAt_mk kr_FORMS_12 u2_kr_FORMS_12 (.cons ⟨_, rfl⟩ (.cons ⟨_, rfl⟩ (.cons ⟨_, rfl⟩ (.nil)))) (by show 3 ≤ sizeLine; decide) (by decide +kernel)) (.cons (rowAt_mk kr_FORMS_13 u2_kr_FORMS_13 (.cons ⟨_, rfl⟩ (.cons ⟨_, rfl⟩ (.nil))) (by show 2 ≤ sizeLine; decide) (by decide +kernel)) (.cons (rowAt_mk kr_FORMS_14 u2_kr_FORMS_14 (.nil) (by show 0 ≤ sizeLine; decide) (by decide +kernel)) (.cons (rowAt_mk kr_FORMS_15 u2_kr_FORMS_15 (.cons ⟨_, rfl⟩ (.nil)) (by show 1 ≤ sizeLine; decide) (by decide +kernel)) (.cons (rowAt_mk kr_FORMS_16 u2_kr_FORMS_16 (.cons ⟨_, rfl⟩ (.cons ⟨_, rfl⟩ (.nil))) (by show 2 ≤ sizeLine; decide) (by decide +kernel)) (.cons (rowAt_mk kr_FORMS_17 u2_kr_FORMS_17 (.cons ⟨_, rfl⟩ (.cons ⟨_, rfl⟩ (.nil))) (by show 2 ≤ sizeLine; decide) (by decide +kernel)) (.cons (rowAt_mk kr_FORMS_18 u2_kr_FORMS_18 (.nil) (by show 0 ≤ sizeLine; decide) (by decide +kernel)) (.cons (rowAt_mk kr_FORMS_19 u2_kr_FORMS_19 (.cons ⟨_, rfl⟩ (.cons ⟨_, rfl⟩ (.cons ⟨_, rfl⟩ (.cons ⟨_, rfl⟩ (.nil))))) (by show 4 ≤ sizeLine; decide) (by decide +kernel)) (.cons (rowAt_mk kr_FORMS_20 u2_kr_FORMS_20 (.nil) (by show 0 ≤ sizeLine; decide) (by decide +kernel)) (.cons (rowAt_mk kr_FORMS_21 u2_kr_FORMS_21 (.nil) (by show 0 ≤ sizeLine; decide) (by decide +kernel)) (.cons (rowAt_mk kr_FORMS_22 u2_kr_FORMS_22 (.cons ⟨_, rfl⟩ (.cons ⟨_, rfl⟩ (.cons ⟨_, rfl⟩ (.nil)))) (by show 3 ≤ sizeLine; decide) (by decide +kernel)) (.cons (rowAt_mk kr_FORMS_23 u2_kr_FORMS_23 (.nil) (by show 0 ≤ sizeLine; decide) (by decide +kernel)) (.nil)))))))))))))))))))))))))
  case kp_BOUNDS => exact ⟨⟨ka_BOUNDS, ke_BOUNDS, kn_BOUNDS, PySem.W.mg_of X G k1_BOUNDS, k2_BOUNDS, k3_BOUNDS, k4_BOUNDS, entP_of k5_BOUNDS (.cons (pairE_mk kr_BOUNDS_0 u2_kr_BOUNDS_0) (.cons (pairE_mk kr_BOUNDS_1 u2_kr_BOUNDS_1) (.cons (pairE_mk kr_BOUNDS_2 u2_kr_BOUNDS_2) (.cons (pairE_mk kr_BOUNDS_3 u2_kr_BOUNDS_3) (.nil))))) rfl⟩⟩
  case z_abs => exact PySem.W.mg_none_of X G z_abs
  case z_all => exact PySem.W.mg_none_of X G z_all
  case z_bool => exact PySem.W.mg_none_of X G z_bool
  case z_int => exact PySem.W.mg_none_of X G z_int
  case z_isinstance => exact PySem.W.mg_none_of X G z_isinstance
  case z_len => exact PySem.W.mg_none_of X G z_len
  case z_list => exact PySem.W.mg_none_of X G z_list
  case z_max => exact PySem.W.mg_none_of X G z_max
  case z_min => exact PySem.W.mg_none_of X G z_min
  case z_range => exact PySem.W.mg_none_of X G z_range
  case z_sorted => exact PySem.W.mg_none_of X G z_sorted
  case z_str => exact PySem.W.mg_none_of X G z_str
  case z_tuple => exact PySem.W.mg_none_of X G z_tuple
  case z_zip => exact PySem.W.mg_none_of X G z_zip
end L_k75
open PySem PySem.W PyProof.Rows
set_option maxHeartbeats 0 in
theorem PySem.Challenge.cw_wetfields_k75_rows_read_holds : PySem.Challenge.rw_wetfields_k75_rows_read.Holds := by
  w_on; o_law; k_head; (case hw => w_witness2)
  k_fill
  refine PD.top_walkX (l := PySem.Challenge.rw_wetfields_k75_rows_read) (n := 63) (k := 7) (x := "_law_script") (F := L_k75.F_law) rfl (by decide) rfl ⟨rfl, by decide, by decide⟩ (fun w h Y => PySem.W.kIn_of Y) ?F rfl L_k75.sem_law
  case F =>
    intro w mg fa h KX G hmg
    refine' L_k75.all_mk KX G hmg ?a__law_box ?l__law_box ?k__law_box ?p__law_box ?a__law_take ?l__law_take ?k__law_take ?p__law_take ?a__law_words ?l__law_words ?k__law_words ?p__law_words ?a__law_text ?l__law_text ?k__law_text ?p__law_text ?a__law_row ?l__law_row ?k__law_row ?p__law_row ?a__law_loose ?l__law_loose ?k__law_loose ?p__law_loose ?a__law_same ?l__law_same ?k__law_same ?p__law_same ?a_number_in ?l_number_in ?k_number_in ?p_number_in ?a_is_name ?l_is_name ?k_is_name ?p_is_name ?a_names_in ?l_names_in ?k_names_in ?p_names_in ?a_are_rising ?l_are_rising ?k_are_rising ?p_are_rising ?a_thing_in ?l_thing_in ?k_thing_in ?p_thing_in ?a_may_be ?l_may_be ?k_may_be ?p_may_be ?a_read_row ?l_read_row ?k_read_row ?p_read_row ?a_law ?l_law ?k_law ?p_law ?c_FIGURES ?c_LETTERS ?c_LONGEST ?c_MOST_DAYS ?c_MOST_FIELDS ?c_MOST_RIGHTS ?z_abs ?z_all ?z_bool ?z_int ?z_isinstance ?z_len ?z_list ?z_max ?z_min ?z_range ?z_sorted ?z_str ?z_tuple ?z_zip ?k1_FORMS ?k2_FORMS ?k4_FORMS ?k1_BOUNDS ?k2_BOUNDS ?k4_BOUNDS ?k3_FORMS ?k5_FORMS ?k3_BOUNDS ?k5_BOUNDS ?kr_FORMS_0 ?u2_kr_FORMS_0 ?kr_FORMS_1 ?u2_kr_FORMS_1 ?kr_FORMS_2 ?u2_kr_FORMS_2 ?kr_FORMS_3 ?u2_kr_FORMS_3 ?kr_FORMS_4 ?u2_kr_FORMS_4 ?kr_FORMS_5 ?u2_kr_FORMS_5 ?kr_FORMS_6 ?u2_kr_FORMS_6 ?kr_FORMS_7 ?u2_kr_FORMS_7 ?kr_FORMS_8 ?u2_kr_FORMS_8 ?kr_FORMS_9 ?u2_kr_FORMS_9 ?kr_FORMS_10 ?u2_kr_FORMS_10 ?kr_FORMS_11 ?u2_kr_FORMS_11 ?kr_FORMS_12 ?u2_kr_FORMS_12 ?kr_FORMS_13 ?u2_kr_FORMS_13 ?kr_FORMS_14 ?u2_kr_FORMS_14 ?kr_FORMS_15 ?u2_kr_FORMS_15 ?kr_FORMS_16 ?u2_kr_FORMS_16 ?kr_FORMS_17 ?u2_kr_FORMS_17 ?kr_FORMS_18 ?u2_kr_FORMS_18 ?kr_FORMS_19 ?u2_kr_FORMS_19 ?kr_FORMS_20 ?u2_kr_FORMS_20 ?kr_FORMS_21 ?u2_kr_FORMS_21 ?kr_FORMS_22 ?u2_kr_FORMS_22 ?kr_FORMS_23 ?u2_kr_FORMS_23 ?kr_BOUNDS_0 ?u2_kr_BOUNDS_0 ?kr_BOUNDS_1 ?u2_kr_BOUNDS_1 ?kr_BOUNDS_2 ?u2_kr_BOUNDS_2 ?kr_BOUNDS_3 ?u2_kr_BOUNDS_3
    (case a__law_box => k_is); (case l__law_box => k_is); (case k__law_box => k_is); (case p__law_box => k_is); (case a__law_take => k_is); (case l__law_take => k_is); (case k__law_take => k_is); (case p__law_take => k_is); (case a__law_words => k_is); (case l__law_words => k_is); (case k__law_words => k_is); (case p__law_words => k_is); (case a__law_text => k_is); (case l__law_text => k_is); (case k__law_text => k_is); (case p__law_text => k_is); (case a__law_row => k_is); (case l__law_row => k_is); (case k__law_row => k_is); (case p__law_row => k_is); (case a__law_loose => k_is); (case l__law_loose => k_is); (case k__law_loose => k_is); (case p__law_loose => k_is); (case a__law_same => k_is); (case l__law_same => k_is); (case k__law_same => k_is); (case p__law_same => k_is); (case a_number_in => k_is); (case l_number_in => k_is); (case k_number_in => k_is); (case p_number_in => k_is); (case a_is_name => k_is); (case l_is_name => k_is); (case k_is_name => k_is); (case p_is_name => k_is); (case a_names_in => k_is); (case l_names_in => k_is); (case k_names_in => k_is); (case p_names_in => k_is); (case a_are_rising => k_is); (case l_are_rising => k_is); (case k_are_rising => k_is); (case p_are_rising => k_is); (case a_thing_in => k_is); (case l_thing_in => k_is); (case k_thing_in => k_is); (case p_thing_in => k_is); (case a_may_be => k_is); (case l_may_be => k_is); (case k_may_be => k_is); (case p_may_be => k_is); (case a_read_row => k_is); (case l_read_row => k_is); (case k_read_row => k_is); (case p_read_row => k_is); (case a_law => k_is); (case l_law => k_is); (case k_law => k_is); (case p_law => k_is); (case c_FIGURES => k_is); (case c_LETTERS => k_is); (case c_LONGEST => k_is); (case c_MOST_DAYS => k_is); (case c_MOST_FIELDS => k_is); (case c_MOST_RIGHTS => k_is); (case z_abs => k_is); (case z_all => k_is); (case z_bool => k_is); (case z_int => k_is); (case z_isinstance => k_is); (case z_len => k_is); (case z_list => k_is); (case z_max => k_is); (case z_min => k_is); (case z_range => k_is); (case z_sorted => k_is); (case z_str => k_is); (case z_tuple => k_is); (case z_zip => k_is); (case k1_FORMS => k_is); (case k2_FORMS => k_is); (case k4_FORMS => rfl); (case k1_BOUNDS => k_is); (case k2_BOUNDS => k_is); (case k4_BOUNDS => rfl); (case k3_FORMS => exact ⟨⟨_, _, rfl, rfl⟩, ⟨_, _, rfl, rfl⟩, ⟨_, _, rfl, rfl⟩, ⟨_, _, rfl, rfl⟩, ⟨_, _, rfl, rfl⟩, ⟨_, _, rfl, rfl⟩, ⟨_, _, rfl, rfl⟩, ⟨_, _, rfl, rfl⟩, ⟨_, _, rfl, rfl⟩, ⟨_, _, rfl, rfl⟩, ⟨_, _, rfl, rfl⟩, ⟨_, _, rfl, rfl⟩, ⟨_, _, rfl, rfl⟩, ⟨_, _, rfl, rfl⟩, ⟨_, _, rfl, rfl⟩, ⟨_, _, rfl, rfl⟩, ⟨_, _, rfl, rfl⟩, ⟨_, _, rfl, rfl⟩, ⟨_, _, rfl, rfl⟩, ⟨_, _, rfl, rfl⟩, ⟨_, _, rfl, rfl⟩, ⟨_, _, rfl, rfl⟩, ⟨_, _, rfl, rfl⟩, ⟨_, _, rfl, rfl⟩, trivial⟩); (case k5_FORMS => exact .cons rfl rfl (.cons rfl rfl (.cons rfl rfl (.cons rfl rfl (.cons rfl rfl (.cons rfl rfl (.cons rfl rfl (.cons rfl rfl (.cons rfl rfl (.cons rfl rfl (.cons rfl rfl (.cons rfl rfl (.cons rfl rfl (.cons rfl rfl (.cons rfl rfl (.cons rfl rfl (.cons rfl rfl (.cons rfl rfl (.cons rfl rfl (.cons rfl rfl (.cons rfl rfl (.cons rfl rfl (.cons rfl rfl (.cons rfl rfl (.nil))))))))))))))))))))))))); (case k3_BOUNDS => exact ⟨⟨_, _, rfl, rfl⟩, ⟨_, _, rfl, rfl⟩, ⟨_, _, rfl, rfl⟩, ⟨_, _, rfl, rfl⟩, trivial⟩); (case k5_BOUNDS => exact .cons rfl rfl (.cons rfl rfl (.cons rfl rfl (.cons rfl rfl (.nil))))); (case kr_FORMS_0 => k_is); (case u2_kr_FORMS_0 => rfl); (case kr_FORMS_1 => k_is); (case u2_kr_FORMS_1 => rfl); (case kr_FORMS_2 => k_is); (case u2_kr_FORMS_2 => rfl); (case kr_FORMS_3 => k_is); (case u2_kr_FORMS_3 => rfl); (case kr_FORMS_4 => k_is); (case u2_kr_FORMS_4 => rfl); (case kr_FORMS_5 => k_is); (case u2_kr_FORMS_5 => rfl); (case kr_FORMS_6 => k_is); (case u2_kr_FORMS_6 => rfl); (case kr_FORMS_7 => k_is); (case u2_kr_FORMS_7 => rfl); (case kr_FORMS_8 => k_is); (case u2_kr_FORMS_8 => rfl); (case kr_FORMS_9 => k_is); (case u2_kr_FORMS_9 => rfl); (case kr_FORMS_10 => k_is); (case u2_kr_FORMS_10 => rfl); (case kr_FORMS_11 => k_is); (case u2_kr_FORMS_11 => rfl); (case kr_FORMS_12 => k_is); (case u2_kr_FORMS_12 => rfl); (case kr_FORMS_13 => k_is); (case u2_kr_FORMS_13 => rfl); (case kr_FORMS_14 => k_is); (case u2_kr_FORMS_14 => rfl); (case kr_FORMS_15 => k_is); (case u2_kr_FORMS_15 => rfl); (case kr_FORMS_16 => k_is); (case u2_kr_FORMS_16 => rfl); (case kr_FORMS_17 => k_is); (case u2_kr_FORMS_17 => rfl); (case kr_FORMS_18 => k_is); (case u2_kr_FORMS_18 => rfl); (case kr_FORMS_19 => k_is); (case u2_kr_FORMS_19 => rfl); (case kr_FORMS_20 => k_is); (case u2_kr_FORMS_20 => rfl); (case kr_FORMS_21 => k_is); (case u2_kr_FORMS_21 => rfl); (case kr_FORMS_22 => k_is); (case u2_kr_FORMS_22 => rfl); (case kr_FORMS_23 => k_is); (case u2_kr_FORMS_23 => rfl); (case kr_BOUNDS_0 => k_is); (case u2_kr_BOUNDS_0 => rfl); (case kr_BOUNDS_1 => k_is); (case u2_kr_BOUNDS_1 => rfl); (case kr_BOUNDS_2 => k_is); (case u2_kr_BOUNDS_2 => rfl); (case kr_BOUNDS_3 => k_is); (case u2_kr_BOUNDS_3 => rfl)
