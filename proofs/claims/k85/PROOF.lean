import PyProof.Rows.All
import Wide.All
import OpenK.AllK
import Wide.FinOn
import HandS.ForMost
import HandS.Wide
import HandS.Exc
import HandS.TryOnly
import HandS.ExcOwn
import HandS.WordsExc
import HandS.IsInst
import HandS.HotCalls
import HandS.ExcIs
import HandS.Nested
import HandS.EndTab
import HandS.More
import HandS.Style
import HandS.Rev
import HandS.SetFor
import HandS.Iter
import KE.DataEq
import HandS.Deep
import HandS.Small
import HandS.SortInts
import HandS.WideBits
import HandS.Text
import KE.DatumOrd
import KE.SortData
import HandS.List
import KE.KDictZip
import KE.KNestM
import HandS.Conv
import KE.SortKeyHeap
import KE.FramesApart
import HandS.ExcValue
import PyProof.StrOps2
import HandS.ExcCtx
import PySem.Challenge.RW_fractionroads_k85_no_texts
set_option Elab.async false
set_option linter.all false
set_option maxRecDepth 100000
set_option maxHeartbeats 4000000
namespace Sim
open PySem PySem.Spec PyProof.Rows L2
theorem takes0N {X : Cx} : L2N.Takes X (fun _ _ _ _ => False) := fun _ _ x => by
  obtain ⟨_, _, _, _, _, _, _, _, _, _, _, _, _, _, _, _, z⟩ := x
  exact z.elim
theorem okXN {P : Program} {w : World} {K : PySem.W.Frag} {mg : Str → Option Value} {base : Heap} {x qual : Str} {st : Stmt} {f : Addr} {fd : FuncData} {N ps : List Str} {k : Nat} {sp : Sp} (F : Fun K x qual st f fd) (S : FnScope N ps (defScope st)) (len : ∀ vs H Q E, sp vs H Q E → vs.length = ps.length)
    (hbody : ∀ (cdv : Value) (A : Around) (outer : List Env) (s : Shared) (H : Hp) (vs : List V) (Q : VK) (E : XK), Room k (A.deeper (envOfC qual (defScope st) s.heap.objs.size f cdv)) → sp vs H Q E →
      ∃ t, PSs (cxOf (L2N.CX P w) P w K mg base N qual (defScope st) f cdv A outer s H E) (defBody st) t ∧ t { nx := fun _ H' => Q .non H', rt := Q } (start N vs) H) : FnOk P w K mg base (L2N.CX P w) (k + 1) f fd ps sp := by
  obtain ⟨oc, od, kV, doc, pm, an, cdv, ct, osl, rfl, lk, hcd⟩ := F.ex
  exact fn_of lk hcd S len fun A outer s H vs Q E hr hsp => hbody cdv A outer s H vs Q E hr hsp
end Sim
/-! Sim: values without addresses, slots that share or own, and how a reading follows such a run. -/
namespace Sim
open PySem PySem.Spec PyProof.Rows L2

/-! ### what a law fixes: the tables of code objects that its lambdas are kept in; whether it reads tuples of modules -/
def lamT : List (Addr × Str) := []
def modTup : Bool := true
/-! ### the levels, as plain data -/
def putP (ps : List (List Int × Int)) (k : List Int) (v : Int) : List (List Int × Int) :=
  if (ps.any fun p => decide (p.1 = k)) = true then ps.map (fun p => if p.1 = k then (p.1, v) else p) else ps ++ [(k, v)]
def takeP (n : Int) (T : List Int) (i u v : Int) (ps : List (List Int × Int)) : List (List Int × Int) := T.foldl (fun ps k => putP ps [k * u % n, k * v % n] i) ps
def lvOk (n u v : Int) (ps : List (List Int × Int)) : Bool := decide (Int.gcd (Int.gcd u v : Nat) n = 1) && !(ps.any fun p => decide (p.1 = [u, v]))
def lvStep (n : Int) (T : List Int) (s : List (Int × Int) × List (List Int × Int)) (u v : Int) : List (Int × Int) × List (List Int × Int) :=
  if lvOk n u v s.2 = true then (s.1 ++ [(u, v)], takeP n T s.1.length u v s.2) else s
def lvRow (n : Int) (T : List Int) (s : List (Int × Int) × List (List Int × Int)) (u : Int) (m : Nat) : List (Int × Int) × List (List Int × Int) := (List.range m).foldl (fun s (v : Nat) => lvStep n T s u v) s
def lvAll (n : Int) (T : List Int) (m : Nat) : List (Int × Int) × List (List Int × Int) := (List.range m).foldl (fun s (u : Nat) => lvRow n T s u n.toNat) ([], [])
def lvT (n : Int) : List Int := ((List.range n.toNat).map fun (k : Nat) => 1 + (k : Int)).filter fun k => decide (Int.gcd k n = 1)
def lvEnd (n : Int) : List (Int × Int) × List (List Int × Int) := lvAll n (lvT n) n.toNat
def lvNames : List Str := ["n", "kinds", "numbers", "times"]
/-! ### data -/
inductive D where
  | non
  | bl (b : Bool)
  | int (i : Int)
  | str (s : Str)
  | tup (l : List D)
  | lst (l : List D)
  | scr (l : List Int)
  | dct (ks : List (List Int)) (vs : List D)
  | dck (ks : List L2.Key) (vs : List D)
  | ob (c : Str) (ns : List Str) (fs : List D)
  | adr (a : Addr)
  | lv (n : Int)
  | fn (a c : Addr) (q : Str)

/-- a tuple that is there: tracked, or the module's own -/
def TpAt (K : PySem.W.Frag) (H : Hp) (a : Addr) (xs : List V) : Prop :=
  H a = some (.tup xs) ∨ modTup = true ∧ ∃ (o : Obj) (its : Array Value) (n : Nat), K.lookup a = some o ∧ o.cls = .type "tuple" ∧ o.data = .seq its n ∧ its.size ≤ sizeLine ∧ Vals xs its.toList
theorem TpAt.sq {K : PySem.W.Frag} {H : Hp} {a : Addr} {xs : List V} (h : TpAt K H a xs) : SqT K H a xs := by
  rcases h with h | h
  · exact .inl (.inl h)
  · exact .inr h.2
theorem TpAt.mono {K : PySem.W.Frag} {H H' : Hp} {a : Addr} {xs : List V} (e : ∀ a xs, H a = some (.tup xs) → H' a = some (.tup xs)) (h : TpAt K H a xs) : TpAt K H' a xs := by
  rcases h with h | h
  · exact .inl (e _ _ h)
  · exact .inr h
def keyL (k : List Int) : List L2.Key := k.map Sum.inl
def lvFull (n : Int) : D := .ob "Level" lvNames [.int n, .lst ((lvEnd n).1.map fun q => .tup [.int q.1, .int q.2]), .dct ((lvEnd n).2.map (·.1)) ((lvEnd n).2.map fun p => .int p.2), .lst ((lvT n).map .int)]
abbrev lvOb (n : Int) : D := .lv n
inductive PairsAt (K : PySem.W.Frag) (H : Hp) : List V → List (Int × Int) → Prop
  | nil : PairsAt K H [] []
  | cons {a : Addr} {p : Int × Int} {vs : List V} {ps : List (Int × Int)} (h : TpAt K H a [.int p.1, .int p.2]) (t : PairsAt K H vs ps) : PairsAt K H (.ref a :: vs) (p :: ps)
theorem PairsAt.mono {K : PySem.W.Frag} {H H' : Hp} (e : ∀ a xs, H a = some (.tup xs) → H' a = some (.tup xs)) {vs : List V} {ps : List (Int × Int)} (h : PairsAt K H vs ps) : PairsAt K H' vs ps := by
  induction h with
  | nil => exact .nil
  | cons h _ ih => exact .cons (h.mono e) ih
/-- a level's object -/
structure LvAt (K : PySem.W.Frag) (H : Hp) (a : Addr) (n : Int) : Prop where
  ex : ∃ (C dx kA nA tA : Addr) (xs : List V), PySem.W.nsIn K mainGlobals "Level" = some (some (.ref C)) ∧ H a = some (.ins C dx (lvNames.zip [.int n, .ref kA, .ref nA, .ref tA])) ∧ H kA = some (.lst xs) ∧ PairsAt K H xs (lvEnd n).1 ∧
    H nA = some (.dT ((((lvEnd n).2.map (·.1)).map keyL).zip ((lvEnd n).2.map fun p => V.int p.2))) ∧ H tA = some (.lst ((lvT n).map V.int))
theorem LvAt.mono {K : PySem.W.Frag} {H H' : Hp} {a : Addr} {n : Int} (e : Same H H') (h : LvAt K H a n) : LvAt K H' a n := by
  obtain ⟨C, dx, kA, nA, tA, xs, h1, h2, h3, h4, h5, h6⟩ := h.ex
  exact ⟨C, dx, kA, nA, tA, xs, h1, e _ _ h2, e _ _ h3, h4.mono fun a xs q => e a _ q, e _ _ h5, e _ _ h6⟩
mutual
inductive Rep (K : PySem.W.Frag) (H : Hp) : V → D → Prop
  | non : Rep K H .non .non
  | bl (b : Bool) : Rep K H (.bl b) (.bl b)
  | int (i : Int) : Rep K H (.int i) (.int i)
  | str (s : Str) : Rep K H (.str s) (.str s)
  | tup {a : Addr} {xs : List V} {ds : List D} (h : TpAt K H a xs) (r : RepL K H xs ds) : Rep K H (.ref a) (.tup ds)
  | lst {a : Addr} {xs : List V} {ds : List D} (h : H a = some (.lst xs)) (r : RepL K H xs ds) : Rep K H (.ref a) (.lst ds)
  | scr {a : Addr} {ns : List Int} (h : SqL K H a (ns.map V.int)) : Rep K H (.ref a) (.scr ns)
  | dct {a : Addr} {ks : List (List Int)} {xs : List V} {ds : List D} (h : H a = some (.dT ((ks.map keyL).zip xs))) (hl : ks.length = ds.length) (r : RepL K H xs ds) : Rep K H (.ref a) (.dct ks ds)
  | dck {a : Addr} {ks : List L2.Key} {xs : List V} {ds : List D} (h : H a = some (.dK (ks.zip xs))) (hl : ks.length = ds.length) (r : RepL K H xs ds) : Rep K H (.ref a) (.dck ks ds)
  | ob {a C dx : Addr} {c : Str} {ns : List Str} {xs : List V} {ds : List D} (hc : PySem.W.nsIn K mainGlobals c = some (some (.ref C))) (h : H a = some (.ins C dx (ns.zip xs))) (hl : ns.length = ds.length) (r : RepL K H xs ds) : Rep K H (.ref a) (.ob c ns ds)
  | adr (a : Addr) : Rep K H (.ref a) (.adr a)
  | fn {a c : Addr} {q : Str} (h : H c = some (LamX.CodeO c q)) : Rep K H (.ref a) (.fn a c q)
  | lv {a : Addr} {n : Int} (h : LvAt K H a n) : Rep K H (.ref a) (.lv n)
inductive RepL (K : PySem.W.Frag) (H : Hp) : List V → List D → Prop
  | nil : RepL K H [] []
  | cons {v : V} {d : D} {vs : List V} {ds : List D} (h : Rep K H v d) (t : RepL K H vs ds) : RepL K H (v :: vs) (d :: ds)
end

mutual
def isT : D → Bool
  | .lst _ => false
  | .scr _ => false
  | .tup l => isTL l
  | .non => true
  | .bl _ => true
  | .int _ => true
  | .str _ => true
  | .dct _ _ => false
  | .dck _ _ => false
  | .ob _ _ _ => false
  | .adr _ => true
  | .lv _ => false
  | .fn _ _ _ => false
def isTL : List D → Bool
  | [] => true
  | d :: ds => isT d && isTL ds
end

mutual
def isL : D → Bool
  | .lst l => isLL l
  | .tup l => isLL l
  | .scr _ => false
  | .non => true
  | .bl _ => true
  | .int _ => true
  | .str _ => true
  | .dct _ _ => false
  | .dck _ _ => false
  | .ob _ _ _ => false
  | .adr _ => true
  | .lv _ => false
  | .fn _ _ _ => false
def isLL : List D → Bool
  | [] => true
  | d :: ds => isL d && isLL ds
end
section
variable {K : PySem.W.Frag} {H H' : Hp}
mutual
theorem Rep.mono (e : Same H H') : ∀ (d : D) (v : V), Rep K H v d → Rep K H' v d
  | .non, _, .non => .non
  | .bl _, _, .bl b => .bl b
  | .int _, _, .int i => .int i
  | .str _, _, .str s => .str s
  | .tup ds, _, .tup h r => .tup (h.mono fun a xs q => e a _ q) (RepL.mono e ds _ r)
  | .lst ds, _, .lst h r => .lst (e _ _ h) (RepL.mono e ds _ r)
  | .scr _, _, .scr h => .scr (e.seq h)
  | .dct _ ds, _, .dct h hl r => .dct (e _ _ h) hl (RepL.mono e ds _ r)
  | .dck _ ds, _, .dck h hl r => .dck (e _ _ h) hl (RepL.mono e ds _ r)
  | .ob _ _ ds, _, .ob hc h hl r => .ob hc (e _ _ h) hl (RepL.mono e ds _ r)
  | .adr _, _, .adr a => .adr a
  | .fn _ _ _, _, .fn h => .fn (e _ _ h)
  | .lv _, _, .lv h => .lv (h.mono e)
theorem RepL.mono (e : Same H H') : ∀ (ds : List D) (vs : List V), RepL K H vs ds → RepL K H' vs ds
  | [], _, .nil => .nil
  | d :: ds, _, .cons h t => .cons (Rep.mono e d _ h) (RepL.mono e ds _ t)
end
mutual
theorem Rep.tmono (e : ∀ a xs, H a = some (.tup xs) → H' a = some (.tup xs)) : ∀ (d : D) (v : V), isT d = true → Rep K H v d → Rep K H' v d
  | .non, _, _, .non => .non
  | .bl _, _, _, .bl b => .bl b
  | .int _, _, _, .int i => .int i
  | .str _, _, _, .str s => .str s
  | .tup ds, _, ht, .tup h r => .tup (h.mono e) (RepL.tmono e ds _ (by unfold isT at ht; exact ht) r)
  | .lst _, _, ht, _ => by unfold isT at ht; cases ht
  | .scr _, _, ht, _ => by unfold isT at ht; cases ht
  | .dct _ _, _, ht, _ => by unfold isT at ht; cases ht
  | .dck _ _, _, ht, _ => by unfold isT at ht; cases ht
  | .ob _ _ _, _, ht, _ => by unfold isT at ht; cases ht
  | .adr _, _, _, .adr a => .adr a
  | .lv _, _, ht, _ => by unfold isT at ht; cases ht
  | .fn _ _ _, _, ht, _ => by unfold isT at ht; cases ht
theorem RepL.tmono (e : ∀ a xs, H a = some (.tup xs) → H' a = some (.tup xs)) : ∀ (ds : List D) (vs : List V), isTL ds = true → RepL K H vs ds → RepL K H' vs ds
  | [], _, _, .nil => .nil
  | d :: ds, _, ht, .cons h t => by
    unfold isTL at ht
    rw [Bool.and_eq_true] at ht
    exact .cons (Rep.tmono e d _ ht.1 h) (RepL.tmono e ds _ ht.2 t)
end
mutual
theorem Rep.lmono (e : ∀ a xs, H a = some (.tup xs) → H' a = some (.tup xs)) (e' : ∀ a xs, H a = some (.lst xs) → H' a = some (.lst xs)) : ∀ (d : D) (v : V), isL d = true → Rep K H v d → Rep K H' v d
  | .non, _, _, .non => .non
  | .bl _, _, _, .bl b => .bl b
  | .int _, _, _, .int i => .int i
  | .str _, _, _, .str s => .str s
  | .tup ds, _, ht, .tup h r => .tup (h.mono e) (RepL.lmono e e' ds _ (by unfold isL at ht; exact ht) r)
  | .lst ds, _, ht, .lst h r => .lst (e' _ _ h) (RepL.lmono e e' ds _ (by unfold isL at ht; exact ht) r)
  | .scr _, _, ht, _ => by unfold isL at ht; cases ht
  | .dct _ _, _, ht, _ => by unfold isL at ht; cases ht
  | .dck _ _, _, ht, _ => by unfold isL at ht; cases ht
  | .ob _ _ _, _, ht, _ => by unfold isL at ht; cases ht
  | .adr _, _, _, .adr a => .adr a
  | .lv _, _, ht, _ => by unfold isL at ht; cases ht
  | .fn _ _ _, _, ht, _ => by unfold isL at ht; cases ht
theorem RepL.lmono (e : ∀ a xs, H a = some (.tup xs) → H' a = some (.tup xs)) (e' : ∀ a xs, H a = some (.lst xs) → H' a = some (.lst xs)) : ∀ (ds : List D) (vs : List V), isLL ds = true → RepL K H vs ds → RepL K H' vs ds
  | [], _, _, .nil => .nil
  | d :: ds, _, ht, .cons h t => by
    unfold isLL at ht
    rw [Bool.and_eq_true] at ht
    exact .cons (Rep.lmono e e' d _ ht.1 h) (RepL.lmono e e' ds _ ht.2 t)
end
theorem RepL.length : ∀ {vs : List V} {ds : List D}, RepL K H vs ds → vs.length = ds.length
  | _, _, .nil => rfl
  | _, _, .cons _ t => by rw [List.length_cons, List.length_cons, RepL.length t]
theorem RepL.get : ∀ {vs : List V} {ds : List D} {i : Nat} {d : D}, RepL K H vs ds → ds[i]? = some d → ∃ v, vs[i]? = some v ∧ Rep K H v d
  | _, _, _, _, .nil, h => by simp at h
  | _, _, 0, _, .cons r _, h => by simp at h; subst h; exact ⟨_, rfl, r⟩
  | _, _, i + 1, d, .cons _ t, h => by
    obtain ⟨v, h1, h2⟩ := RepL.get (i := i) (d := d) t (by simpa using h)
    exact ⟨v, by simpa using h1, h2⟩
theorem RepL.append : ∀ {vs ws : List V} {ds es : List D}, RepL K H vs ds → RepL K H ws es → RepL K H (vs ++ ws) (ds ++ es)
  | _, _, _, _, .nil, s => s
  | _, _, _, _, .cons r t, s => .cons r (RepL.append t s)
theorem RepL.set {v : V} {d : D} (r : Rep K H v d) : ∀ {vs : List V} {ds : List D} (i : Nat), RepL K H vs ds → RepL K H (vs.set i v) (ds.set i d)
  | _, _, _, .nil => .nil
  | _, _, 0, .cons _ t => .cons r t
  | _, _, i + 1, .cons q t => .cons q (RepL.set r i t)
theorem RepL.take : ∀ {vs : List V} {ds : List D} (n : Nat), RepL K H vs ds → RepL K H (vs.take n) (ds.take n)
  | _, _, 0, _ => .nil
  | _, _, _ + 1, .nil => .nil
  | _, _, n + 1, .cons r t => .cons r (RepL.take n t)
theorem RepL.drop : ∀ {vs : List V} {ds : List D} (n : Nat), RepL K H vs ds → RepL K H (vs.drop n) (ds.drop n)
  | _, _, 0, r => r
  | _, _, _ + 1, .nil => .nil
  | _, _, n + 1, .cons _ t => RepL.drop n t
theorem RepL.reverse : ∀ {vs : List V} {ds : List D}, RepL K H vs ds → RepL K H vs.reverse ds.reverse
  | _, _, .nil => .nil
  | _, _, .cons r t => by
    rw [List.reverse_cons, List.reverse_cons]
    exact RepL.append (RepL.reverse t) (.cons r .nil)
theorem RepL.ints : ∀ (ns : List Int), RepL K H (ns.map V.int) (ns.map D.int)
  | [] => .nil
  | n :: ns => .cons (.int n) (RepL.ints ns)
end

/-! ### a level's object, in full -/
section
variable {K : PySem.W.Frag} {H : Hp}
theorem PairsAt.rep : ∀ {vs : List V} {ps : List (Int × Int)}, PairsAt K H vs ps → RepL K H vs (ps.map fun q => .tup [.int q.1, .int q.2])
  | _, _, .nil => .nil
  | _, _, .cons h t => .cons (.tup h (.cons (.int _) (.cons (.int _) .nil))) (PairsAt.rep t)
theorem PairsAt.of : ∀ {ps : List (Int × Int)} {vs : List V}, RepL K H vs (ps.map fun q => .tup [.int q.1, .int q.2]) → PairsAt K H vs ps
  | [], _, .nil => .nil
  | p :: ps, _, .cons r t => by
    cases r with
    | tup h r =>
      cases r with
      | cons r1 r =>
        cases r with
        | cons r2 r =>
          cases r
          cases r1
          cases r2
          exact .cons h (PairsAt.of t)
theorem reps_ints : ∀ ps : List (List Int × Int), RepL K H (ps.map fun p => V.int p.2) (ps.map fun p => D.int p.2)
  | [] => .nil
  | p :: ps => .cons (.int _) (reps_ints ps)
theorem RepL.ints_of : ∀ {ns : List Int} {vs : List V}, RepL K H vs (ns.map D.int) → vs = ns.map V.int
  | [], _, .nil => rfl
  | n :: ns, _, .cons r t => by
    cases r
    rw [RepL.ints_of t]
    rfl
theorem Rep.full {v : V} {n : Int} (h : Rep K H v (.lv n)) : Rep K H v (lvFull n) := by
  cases h with
  | lv h =>
    obtain ⟨C, dx, kA, nA, tA, xs, h1, h2, h3, h4, h5, h6⟩ := h.ex
    exact .ob h1 h2 rfl (.cons (.int n) (.cons (.lst h3 h4.rep) (.cons (.dct h5 (by rw [List.length_map, List.length_map]) (reps_ints _)) (.cons (.lst h6 (RepL.ints _)) .nil))))
theorem Rep.lv_of {v : V} {n : Int} (h : Rep K H v (lvFull n)) : Rep K H v (.lv n) := by
  unfold lvFull at h
  cases h with
  | ob hc h hl r =>
    cases r with
    | cons r1 r =>
      cases r with
      | cons r2 r =>
        cases r with
        | cons r3 r =>
          cases r with
          | cons r4 r =>
            cases r
            cases r1
            cases r2 with
            | lst e2 q2 =>
              cases r3 with
              | @dct _ _ xs3 _ e3 l3 q3 =>
                cases r4 with
                | lst e4 q4 =>
                  have z3 : RepL K H xs3 (((lvEnd n).2.map (·.2)).map D.int) := by
                    rw [List.map_map]
                    exact q3
                  have z3 := z3.ints_of
                  rw [List.map_map] at z3
                  have z4 := q4.ints_of
                  subst z3
                  subst z4
                  exact .lv ⟨_, _, _, _, _, _, hc, h, e2, PairsAt.of q2, e3, e4⟩
end
/-! ### slots -/
/-- what a slot can own -/
inductive OC where
  | lst (l : List D)
  | dk (ks : List L2.Key) (vs : List D)
  | dt (ks : List (List Int)) (vs : List D)
  | ob (c : Str) (ns : List Str) (fs : List D)
def OC.d : OC → D
  | .lst l => .lst l
  | .dk ks vs => .dck ks vs
  | .dt ks vs => .dct ks vs
  | .ob c ns fs => .ob c ns fs
def OC.ds : OC → List D
  | .lst l => l
  | .dk _ vs => vs
  | .dt _ vs => vs
  | .ob _ _ fs => fs
/-- the object that stands for it, its items' values told -/
def OC.At (K : PySem.W.Frag) : OC → HO → List V → Prop
  | .lst _, o, xs => o = .lst xs
  | .dk ks vs, o, xs => o = .dK (ks.zip xs) ∧ ks.length = vs.length
  | .dt ks vs, o, xs => o = .dT ((ks.map keyL).zip xs) ∧ ks.length = vs.length
  | .ob c ns fs, o, xs => ∃ C dx, PySem.W.nsIn K mainGlobals c = some (some (.ref C)) ∧ o = .ins C dx (ns.zip xs) ∧ ns.length = fs.length
theorem OC.rep {K : PySem.W.Frag} {H : Hp} {a : Addr} {o : HO} {xs : List V} : ∀ {c : OC}, H a = some o → c.At K o xs → RepL K H xs c.ds → Rep K H (.ref a) c.d
  | .lst _, h, e, r => by
    have e : o = .lst xs := e
    subst e
    exact .lst h r
  | .dk _ _, h, e, r => by
    obtain ⟨rfl, hl⟩ := e
    exact .dck h hl r
  | .dt _ _, h, e, r => by
    obtain ⟨rfl, hl⟩ := e
    exact .dct h hl r
  | .ob _ _ _, h, e, r => by
    obtain ⟨C, dx, hc, rfl, hl⟩ := e
    exact .ob hc h hl r
inductive SV where
  | sh (d : D)
  | ow (c : OC)
abbrev SV.fr (l : List D) : SV := .ow (.lst l)
def SV.d : SV → D
  | .sh d => d
  | .ow c => c.d
abbrev Sl := List (Option SV)

inductive SlotOk (K : PySem.W.Frag) (F B H : Hp) : Option (Option V) → SV → Prop
  | sh {v : V} {d : D} (r : Rep K B v d) : SlotOk K F B H (some (some v)) (.sh d)
  | fr {a : Addr} {o : HO} {xs : List V} {c : OC} (hF : F a = none) (hB : B a = none) (hH : H a = some o) (hO : c.At K o xs) (r : RepL K B xs c.ds) : SlotOk K F B H (some (some (.ref a))) (.ow c)
def Owns (σ : L2.St) (ρ : Sl) (i : Nat) (a : Addr) : Prop := (∃ c, ρ[i]? = some (some (.ow c))) ∧ σ[i]? = some (some (.ref a))

/-- the tables of code objects are in order; nobody else holds one -/
structure TbOk (F B H : Hp) : Prop where
  tab : LamX.Tabs lamT H
  nB : ∀ p ∈ lamT, B p.1 = none
  nF : ∀ p ∈ lamT, F p.1 = none
theorem tabs_at {H : Hp} (h : LamX.Tabs lamT H) {p : Addr × Str} (hp : p ∈ lamT) : ∃ ps, H p.1 = some (.tbl ps) := by
  obtain ⟨ps, e, _⟩ := h p hp
  exact ⟨ps, e⟩
theorem TbOk.fresh {F B H : Hp} {p : Addr} {o : HO} (h : TbOk F B H) (hp : H p = none) : TbOk F B (upd H p o) :=
  ⟨h.tab.ext fun b u e => by rw [upd_ne (ne_of_none e hp)]; exact e, h.nB, h.nF⟩
theorem TbOk.ext {F B H H' : Hp} (h : TbOk F B H) (e : Same H H') : TbOk F B H' := ⟨h.tab.ext fun b u q => e b u q, h.nB, h.nF⟩
/-- what is neither a table nor a code object -/
def PlainO (o : HO) : Prop := (∀ ps, o ≠ .tbl ps) ∧ ∀ c q, o ≠ LamX.CodeO c q
theorem TbOk.ne {F B H : Hp} (h : TbOk F B H) {a : Addr} {o : HO} (e : H a = some o) (ho : ∀ ps, o ≠ .tbl ps) {p : Addr × Str} (hp : p ∈ lamT) : p.1 ≠ a := fun z => by
  obtain ⟨ps, e2⟩ := tabs_at h.tab hp
  rw [z, e] at e2
  exact ho ps (Option.some.inj e2)
theorem TbOk.toB {F B H : Hp} {p : Addr} {o : HO} (h : TbOk F B H) (hH : H p = some o) (ho : ∀ ps, o ≠ .tbl ps) : TbOk F (upd B p o) H :=
  ⟨h.tab, fun q hq => by rw [upd_ne (h.ne hH ho hq)]; exact h.nB q hq, h.nF⟩
theorem TbOk.toF {F B H : Hp} {p : Addr} {o : HO} (h : TbOk F B H) (hH : H p = some o) (ho : ∀ ps, o ≠ .tbl ps) : TbOk (upd F p o) B H :=
  ⟨h.tab, h.nB, fun q hq => by rw [upd_ne (h.ne hH ho hq)]; exact h.nF q hq⟩
theorem TabS.upd' {H : Hp} {P a : Addr} {q : Str} {o : HO} (t : LamX.TabS H P q) (h : ∀ u, H a = some u → PlainO u) : LamX.TabS (upd H a o) P q := by
  obtain ⟨ps, h1, h2, h3⟩ := t
  have n1 : P ≠ a := fun z => by
    rw [z] at h1
    exact (h _ h1).1 ps rfl
  refine ⟨ps, (upd_ne n1).trans h1, h2, fun pos cv hc => ?_⟩
  obtain ⟨c, e1, e2⟩ := h3 pos cv hc
  have n2 : c ≠ a := fun z => by
    rw [z] at e2
    exact (h _ e2).2 _ q rfl
  exact ⟨c, e1, (upd_ne n2).trans e2⟩
theorem tabs_put {H : Hp} {a : Addr} {o : HO} (h : LamX.Tabs lamT H) (hp : ∀ u, H a = some u → PlainO u) : LamX.Tabs lamT (upd H a o) := fun p hm => TabS.upd' (h p hm) hp
theorem TbOk.put {F B H : Hp} {a : Addr} {o : HO} (h : TbOk F B H) (hp : ∀ u, H a = some u → PlainO u) : TbOk F B (upd H a o) := ⟨tabs_put h.tab hp, h.nB, h.nF⟩
theorem TbOk.both {F B H F' B' : Hp} (h : TbOk F B H) (hB : ∀ p ∈ lamT, B' p.1 = none) (hF : ∀ p ∈ lamT, F' p.1 = none) : TbOk F' B' H := ⟨h.tab, hB, hF⟩
theorem plain_lst {xs : List V} : PlainO (.lst xs) := ⟨fun _ z => (by cases z), fun c q z => (by unfold LamX.CodeO at z; cases z)⟩
theorem plain_dK {xs : List (L2.Key × V)} : PlainO (.dK xs) := ⟨fun _ z => (by cases z), fun c q z => (by unfold LamX.CodeO at z; cases z)⟩
theorem plain_dT {xs : List (List L2.Key × V)} : PlainO (.dT xs) := ⟨fun _ z => (by cases z), fun c q z => (by unfold LamX.CodeO at z; cases z)⟩
theorem plain_at {K : PySem.W.Frag} {o : HO} {xs : List V} : ∀ {c : OC}, c.At K o xs → PlainO o
  | .lst _, h => by
    have h : o = .lst xs := h
    subst h
    exact ⟨fun _ z => (by cases z), fun c q z => (by unfold LamX.CodeO at z; cases z)⟩
  | .dk _ _, ⟨h, _⟩ => by
    subst h
    exact ⟨fun _ z => (by cases z), fun c q z => (by unfold LamX.CodeO at z; cases z)⟩
  | .dt _ _, ⟨h, _⟩ => by
    subst h
    exact ⟨fun _ z => (by cases z), fun c q z => (by unfold LamX.CodeO at z; cases z)⟩
  | .ob _ _ _, ⟨_, _, _, h, _⟩ => by
    subst h
    exact ⟨fun _ z => (by cases z), fun c q z => (by unfold LamX.CodeO at z; cases z)⟩
/-- the tables' places -/
def inT (b : Addr) : Prop := ∃ p ∈ lamT, p.1 = b
instance (b : Addr) : Decidable (inT b) := by unfold inT; infer_instance
def SameN (H H' : Hp) : Prop := ∀ b o, H b = some o → ¬ inT b → H' b = some o
theorem notT {H : Hp} (h : LamX.Tabs lamT H) {a : Addr} {o : HO} (e : H a = some o) (ho : ∀ ps, o ≠ .tbl ps := by intro _ z; cases z) : ¬ inT a := fun ⟨p, hp, z⟩ => by
  obtain ⟨ps, e2⟩ := tabs_at h hp
  rw [z, e] at e2
  exact ho ps (Option.some.inj e2)
theorem notT_none {H : Hp} (h : LamX.Tabs lamT H) {a : Addr} (e : H a = none) : ¬ inT a := fun ⟨p, hp, z⟩ => by
  obtain ⟨ps, e2⟩ := tabs_at h hp
  rw [z, e] at e2
  cases e2
theorem SameN.of {H H' : Hp} (e : Same H H') : SameN H H' := fun b o h _ => e b o h
theorem SameN.trans {H H1 H2 : Hp} (a : SameN H H1) (b : SameN H1 H2) : SameN H H2 := fun c o h n => b c o (a c o h n) n
theorem tabs_of {H H' : Hp} (h : LamX.Tabs lamT H) (e : ∀ b o, H b = some o → ¬ PlainO o → H' b = some o) : LamX.Tabs lamT H' := fun p hp => by
  obtain ⟨ps, h1, h2, h3⟩ := h p hp
  refine ⟨ps, e _ _ h1 fun z => z.1 ps rfl, h2, fun pos cv hc => ?_⟩
  obtain ⟨c, e1, e2⟩ := h3 pos cv hc
  exact ⟨c, e1, e _ _ e2 fun z => z.2 c p.2 rfl⟩
def noT (H : Hp) : Hp := fun a => if inT a then none else H a
theorem noT_no {H : Hp} {a : Addr} (h : ¬ inT a) : noT H a = H a := if_neg h
theorem noT_at {H : Hp} {a : Addr} (h : inT a) : noT H a = none := if_pos h
theorem noT_same {H : Hp} : Same (noT H) H := fun a o e => by
  by_cases z : inT a
  · rw [noT_at z] at e
    cases e
  · rw [noT_no z] at e
    exact e
def DisT (F B H : Hp) : Prop := (∀ a o, F a = some o → B a = none) ∧ TbOk F B H
structure Rel (K : PySem.W.Frag) (F B H : Hp) (σ : L2.St) (ρ : Sl) : Prop where
  exB : Same B H
  exF : Same F H
  dis : ∀ a o, F a = some o → B a = none
  len : ρ.length = σ.length
  slot : ∀ (i : Nat) (sv : SV), ρ[i]? = some (some sv) → SlotOk K F B H σ[i]? sv
  sep : ∀ i j a, Owns σ ρ i a → Owns σ ρ j a → i = j
  tb : TbOk F B H

inductive RV (K : PySem.W.Frag) (F B H : Hp) (σ : L2.St) (ρ : Sl) : V → SV → Prop
  | sh {v : V} {d : D} (r : Rep K B v d) : RV K F B H σ ρ v (.sh d)
  | fr {a : Addr} {o : HO} {xs : List V} {c : OC} (hF : F a = none) (hB : B a = none) (hH : H a = some o) (hO : c.At K o xs) (r : RepL K B xs c.ds) (no : ∀ i, ¬ Owns σ ρ i a) : RV K F B H σ ρ (.ref a) (.ow c)

/-- what an operand stands for: a value that is shared, or the list that a slot owns -/
inductive OpRep (K : PySem.W.Frag) (B H : Hp) : V → D → Prop
  | sh {v : V} {d : D} (r : Rep K B v d) : OpRep K B H v d
  | own {a : Addr} {o : HO} {xs : List V} {c : OC} {d : D} (hB : B a = none) (hH : H a = some o) (hO : c.At K o xs) (r : RepL K B xs c.ds) (e : c.d = d) : OpRep K B H (.ref a) d
inductive OpReps (K : PySem.W.Frag) (B H : Hp) : List V → List D → Prop
  | nil : OpReps K B H [] []
  | cons {v : V} {d : D} {vs : List V} {ds : List D} (h : OpRep K B H v d) (t : OpReps K B H vs ds) : OpReps K B H (v :: vs) (d :: ds)

section
variable {K : PySem.W.Frag} {F B B' H H' : Hp} {σ : L2.St} {ρ : Sl} {v : V} {d : D} {sv : SV}
theorem SlotOk.mono {o : Option (Option V)} (h : SlotOk K F B H o sv) (eB : Same B B') (hb : ∀ a, F a = none → B a = none → H a ≠ none → B' a = none) (eH : Same H H') : SlotOk K F B' H' o sv := by
  cases h with
  | sh r => exact .sh (r.mono eB _ _)
  | fr hF hB hH hO r => exact .fr hF (hb _ hF hB (by rw [hH]; exact Option.some_ne_none _)) (eH _ _ hH) hO (r.mono eB _ _)
/-- a new object that is nobody's yet -/
theorem Rel.new (R : Rel K F B H σ ρ) {p : Addr} {o : HO} (hp : H p = none) : Rel K F B (upd H p o) σ ρ where
  exB := fun a u e => by
    have e' := R.exB a u e
    rw [upd_ne (ne_of_none e' hp)]
    exact e'
  exF := fun a u e => by
    have e' := R.exF a u e
    rw [upd_ne (ne_of_none e' hp)]
    exact e'
  dis := R.dis
  len := R.len
  slot := fun i sv h => (R.slot i sv h).mono (Same.refl _) (fun _ _ h _ => h) fun a u e => by
    rw [upd_ne (ne_of_none e hp)]
    exact e
  sep := R.sep
  tb := R.tb.fresh hp
/-- .. and is shared from now on -/
theorem Rel.share (R : Rel K F B H σ ρ) {p : Addr} {o : HO} (hF : F p = none) (hB : B p = none) (hH : H p = some o) (no : ∀ i, ¬ Owns σ ρ i p) (ho : ∀ ps, o ≠ .tbl ps := by intro _ z; cases z) : Rel K F (upd B p o) H σ ρ ∧ Same B (upd B p o) := by
  have sm : Same B (upd B p o) := fun a u e => by
    rw [upd_ne (ne_of_none e hB)]
    exact e
  refine ⟨⟨fun a u e => ?_, R.exF, fun a u e => ?_, R.len, fun i sv h => ?_, R.sep, R.tb.toB hH ho⟩, sm⟩
  · by_cases h : a = p
    · subst h
      rw [upd_same] at e
      cases e
      exact hH
    · rw [upd_ne h] at e
      exact R.exB a u e
  · have h : a ≠ p := fun z => by
      rw [z, hF] at e
      cases e
    rw [upd_ne h]
    exact R.dis a u e
  · have s := R.slot i sv h
    generalize hg : σ[i]? = w at s
    cases s with
    | sh r => exact .sh (r.mono sm _ _)
    | fr hF' hB' hH' hO' r =>
      refine .fr hF' ?_ hH' hO' (r.mono sm _ _)
      rw [upd_ne fun z => ?_]
      · exact hB'
      · subst z
        exact no i ⟨⟨_, h⟩, hg⟩
theorem Owns.at (R : Rel K F B H σ ρ) {i : Nat} {a : Addr} (o : Owns σ ρ i a) : ∃ ho xs c, ρ[i]? = some (some (.ow c)) ∧ F a = none ∧ B a = none ∧ H a = some ho ∧ c.At K ho xs ∧ RepL K B xs c.ds := by
  obtain ⟨⟨ds, h⟩, h2⟩ := o
  have s := R.slot i _ h
  rw [h2] at s
  cases s with
  | fr hF hB hH hO r => exact ⟨_, _, _, h, hF, hB, hH, hO, r⟩
theorem Rel.noOwn (R : Rel K F B H σ ρ) {p : Addr} (hp : H p = none) : ∀ i, ¬ Owns σ ρ i p := fun i o => by
  obtain ⟨_, _, _, _, _, _, h, _⟩ := o.at R
  rw [hp] at h
  cases h
/-- a new shared object -/
theorem Rel.newB (R : Rel K F B H σ ρ) {p : Addr} {o : HO} (hp : H p = none) (ho : ∀ ps, o ≠ .tbl ps := by intro _ z; cases z) : Rel K F (upd B p o) (upd H p o) σ ρ ∧ Same B (upd B p o) :=
  (R.new (o := o) hp).share (R.exF.free hp) (R.exB.free hp) upd_same (fun i w => R.noOwn hp i w) ho
theorem RV.freeze (R : Rel K F B H σ ρ) (r : RV K F B H σ ρ v sv) : ∃ B', Rel K F B' H σ ρ ∧ Same B B' ∧ Rep K B' v sv.d := by
  cases r with
  | sh r => exact ⟨B, R, Same.refl _, r⟩
  | fr hF hB hH hO r no =>
    obtain ⟨R', sm⟩ := R.share hF hB hH no (plain_at hO).1
    exact ⟨_, R', sm, OC.rep upd_same hO (r.mono sm _ _)⟩
theorem RV.newL (R : Rel K F B H σ ρ) {p : Addr} {xs : List V} {ds : List D} (hp : H p = none) (r : RepL K B xs ds) : RV K F B (upd H p (.lst xs)) σ ρ (.ref p) (.fr ds) :=
  .fr (R.exF.free hp) (R.exB.free hp) upd_same rfl r fun i w => R.noOwn hp i w
theorem OpRep.lst (e : Same B H) {l : List D} (h : OpRep K B H v (.lst l)) : ∃ a xs, v = .ref a ∧ H a = some (.lst xs) ∧ RepL K B xs l := by
  cases h with
  | sh r =>
    cases r with
    | lst h r => exact ⟨_, _, rfl, e _ _ h, r⟩
  | @own a o xs c _ hB hH hO r e =>
    cases c with
    | lst l' =>
      cases e
      have hO : o = .lst xs := hO
      subst hO
      exact ⟨_, _, rfl, hH, r⟩
    | dk _ _ => cases e
    | dt _ _ => cases e
    | ob _ _ _ => cases e
theorem OpRep.tup (e : Same B H) {l : List D} (h : OpRep K B H v (.tup l)) : ∃ a xs, v = .ref a ∧ SqT K H a xs ∧ RepL K B xs l := by
  cases h with
  | sh r =>
    cases r with
    | tup h r => exact ⟨_, _, rfl, (h.mono fun a xs q => e a _ q).sq, r⟩
  | @own a o xs c _ hB hH hO r e => cases c <;> cases e
theorem OpRep.int {i : Int} (h : OpRep K B H v (.int i)) : v = .int i := by
  cases h with
  | sh r =>
    cases r
    rfl
  | @own a o xs c _ hB hH hO r e => cases c <;> cases e
theorem OpRep.bl {b : Bool} (h : OpRep K B H v (.bl b)) : v = .bl b := by
  cases h with
  | sh r =>
    cases r
    rfl
  | @own a o xs c _ hB hH hO r e => cases c <;> cases e
theorem OpRep.str {s : Str} (h : OpRep K B H v (.str s)) : v = .str s := by
  cases h with
  | sh r =>
    cases r
    rfl
  | @own a o xs c _ hB hH hO r e => cases c <;> cases e
theorem OpRep.non (h : OpRep K B H v .non) : v = .non := by
  cases h with
  | sh r =>
    cases r
    rfl
  | @own a o xs c _ hB hH hO r e => cases c <;> cases e
theorem OpRep.scr (e : Same B H) {ns : List Int} (h : OpRep K B H v (.scr ns)) : ∃ a, v = .ref a ∧ SqL K H a (ns.map V.int) := by
  cases h with
  | sh r =>
    cases r with
    | scr h => exact ⟨_, rfl, e.seq h⟩
  | @own a o xs c _ hB hH hO r e => cases c <;> cases e
theorem OpRep.rep (e : Same B H) (h : OpRep K B H v d) : Rep K H v d := by
  cases h with
  | sh r => exact r.mono e _ _
  | own hB hH hO r ed =>
    subst ed
    exact OC.rep hH hO (r.mono e _ _)
theorem OpReps.get {vs : List V} {ds : List D} (h : OpReps K B H vs ds) : vs.length = ds.length := by
  induction h with
  | nil => rfl
  | cons _ _ ih => rw [List.length_cons, List.length_cons, ih]
end

/-! ### runs of expressions -/
inductive Out (α : Type) where
  | ok (a : α) (ρ : Sl)
  | ex (c : Nat) (ρ : Sl)
abbrev M (α : Type) := Sl → Option (Out α)
def wpm {α : Type} (m : M α) (ρ : Sl) (Q : α → Sl → Prop) (X : Nat → Sl → Prop) : Prop :=
  match m ρ with
  | none => False
  | some (.ok a ρ') => Q a ρ'
  | some (.ex c ρ') => X c ρ'
def bnd {α β : Type} (m : M α) (k : α → M β) : M β := fun ρ =>
  match m ρ with
  | none => none
  | some (.ex c ρ') => some (.ex c ρ')
  | some (.ok a ρ') => k a ρ'
def ret {α : Type} (a : α) : M α := fun ρ => some (.ok a ρ)
theorem wpm_bnd {α β : Type} {m : M α} {k : α → M β} {ρ : Sl} {Q : β → Sl → Prop} {X : Nat → Sl → Prop} (h : wpm (bnd m k) ρ Q X) : wpm m ρ (fun a ρ' => wpm (k a) ρ' Q X) X := by
  unfold wpm bnd at h
  unfold wpm
  cases e : m ρ with
  | none =>
    rw [e] at h
    exact h
  | some o =>
    rw [e] at h
    cases o with
    | ok a ρ' => exact h
    | ex c ρ' => exact h
theorem wpm_mono {α : Type} {m : M α} {ρ : Sl} {Q Q' : α → Sl → Prop} {X X' : Nat → Sl → Prop} (h : wpm m ρ Q X) (hQ : ∀ a ρ', Q a ρ' → Q' a ρ') (hX : ∀ c ρ', X c ρ' → X' c ρ') : wpm m ρ Q' X' := by
  unfold wpm at *
  cases e : m ρ with
  | none =>
    rw [e] at h
    exact h
  | some o =>
    rw [e] at h
    cases o with
    | ok a ρ' => exact hQ _ _ h
    | ex c ρ' => exact hX _ _ h

/-- a reading follows a run; cv: the classes of errors; W: what is wished of an error -/
def Adm {β α : Type} (cv : Nat → Value) (W : WX) (K : PySem.W.Frag) (t : L2.St → Hp → (β → Hp → Prop) → Prop) (m : M α) (R : Hp → Hp → Hp → L2.St → Sl → β → α → Prop) : Prop :=
  ∀ (F B H : Hp) (σ : L2.St) (ρ : Sl) (Q : β → Hp → Prop), Rel K F B H σ ρ →
    wpm m ρ (fun a ρ' => ∀ v B' H', Rel K F B' H' σ ρ' → Same B B' → R F B' H' σ ρ' v a → Q v H')
      (fun c ρ' => ∀ B' H', Rel K F B' H' σ ρ' → Same B B' → W (cv c) none σ H') → t σ H Q

inductive Op where
  | val (d : D)
  | slot (i : Nat)
def slotD (ρ : Sl) (i : Nat) : Option D := match ρ[i]? with
  | some (some sv) => some sv.d
  | _ => none
def get (ρ : Sl) : Op → Option D
  | .val d => some d
  | .slot i => slotD ρ i
inductive OpV (K : PySem.W.Frag) (B : Hp) (σ : L2.St) : V → Op → Prop
  | val {v : V} {d : D} (r : Rep K B v d) : OpV K B σ v (.val d)
  | slot {v : V} {i : Nat} (h : σ[i]? = some (some v)) : OpV K B σ v (.slot i)
inductive OpVs (K : PySem.W.Frag) (B : Hp) (σ : L2.St) : List V → List Op → Prop
  | nil : OpVs K B σ [] []
  | cons {v : V} {o : Op} {vs : List V} {os : List Op} (h : OpV K B σ v o) (t : OpVs K B σ vs os) : OpVs K B σ (v :: vs) (o :: os)
def gets (ρ : Sl) : List Op → Option (List D)
  | [] => some []
  | o :: os => match get ρ o, gets ρ os with
    | some d, some ds => some (d :: ds)
    | _, _ => none
section
variable {K : PySem.W.Frag} {F B B' H H' : Hp} {σ : L2.St} {ρ : Sl} {v : V} {d : D} {sv : SV} {o : Op}
theorem OpV.mono (h : OpV K B σ v o) (e : Same B B') : OpV K B' σ v o := by
  cases h with
  | val r => exact .val (r.mono e _ _)
  | slot h => exact .slot h
theorem OpVs.mono {vs : List V} {os : List Op} (h : OpVs K B σ vs os) (e : Same B B') : OpVs K B' σ vs os := by
  induction h with
  | nil => exact .nil
  | cons h _ ih => exact .cons (h.mono e) ih
theorem OpV.rep (R : Rel K F B H σ ρ) (h : OpV K B σ v o) (hg : get ρ o = some d) : OpRep K B H v d := by
  cases h with
  | val r =>
    cases hg
    exact .sh r
  | @slot i h =>
    have hg : slotD ρ i = some d := hg
    unfold slotD at hg
    cases e : ρ[i]? with
    | none =>
      rw [e] at hg
      cases hg
    | some q =>
      rw [e] at hg
      cases q with
      | none => cases hg
      | some sv =>
        cases hg
        have s := R.slot i sv e
        rw [h] at s
        cases s with
        | sh r => exact .sh r
        | fr hF hB hH hO r => exact .own hB hH hO r rfl
theorem OpVs.rep (R : Rel K F B H σ ρ) : ∀ {vs : List V} {os : List Op} {ds : List D}, OpVs K B σ vs os → gets ρ os = some ds → OpReps K B H vs ds
  | _, _, _, .nil, hg => by
    cases hg
    exact .nil
  | _, _, ds, .cons (o := o) (os := os) h t, hg => by
    unfold gets at hg
    cases e1 : get ρ o with
    | none =>
      rw [e1] at hg
      cases hg
    | some d =>
      cases e2 : gets ρ os with
      | none =>
        rw [e1, e2] at hg
        cases hg
      | some ds' =>
        rw [e1, e2] at hg
        cases hg
        exact .cons (h.rep R e1) (OpVs.rep R t e2)
end

structure SndE (cv : Nat → Value) (X : Cx) (W : WX) (e : Expr) (t : TE) (f : M SV) : Prop where
  pe : PE X e t
  ad : Adm cv W X.K t f (RV X.K)
structure SndO (cv : Nat → Value) (X : Cx) (W : WX) (e : Expr) (t : TE) (f : M Op) : Prop where
  pe : PE X e t
  ad : Adm cv W X.K t f (fun _ B _ σ _ v o => OpV X.K B σ v o)
structure SndA (cv : Nat → Value) (X : Cx) (W : WX) (es : List Expr) (t : TA) (f : M (List Op)) : Prop where
  pa : PA X es t
  ad : Adm cv W X.K t f (fun _ B _ σ _ vs os => OpVs X.K B σ vs os)
end Sim

namespace Sim
open PySem PySem.Spec PyProof.Rows L2

section
variable {K : PySem.W.Frag} {F B B' H H' : Hp} {σ : L2.St} {ρ : Sl} {v : V} {d : D} {sv : SV} {o : Op}
theorem owns_set_none {i j : Nat} {a : Addr} (h : Owns σ (ρ.set i none) j a) : j ≠ i ∧ Owns σ ρ j a := by
  obtain ⟨⟨ds, h1⟩, h2⟩ := h
  by_cases e : i = j
  · subst e
    by_cases hl : i < ρ.length
    · rw [List.getElem?_set_self hl] at h1
      cases h1
    · rw [List.getElem?_eq_none (by simpa using hl)] at h1
      cases h1
  · rw [List.getElem?_set_ne e] at h1
    exact ⟨fun z => e z.symm, ⟨ds, h1⟩, h2⟩
/-- a slot is forgotten -/
theorem Rel.drop (R : Rel K F B H σ ρ) (i : Nat) : Rel K F B H σ (ρ.set i none) where
  exB := R.exB
  exF := R.exF
  dis := R.dis
  len := by rw [List.length_set]; exact R.len
  slot := fun j sv h => by
    by_cases e : i = j
    · subst e
      by_cases hl : i < ρ.length
      · rw [List.getElem?_set_self hl] at h
        cases h
      · rw [List.getElem?_eq_none (by simpa using hl)] at h
        cases h
    · rw [List.getElem?_set_ne e] at h
      exact R.slot j sv h
  sep := fun j k a h1 h2 => R.sep j k a (owns_set_none h1).2 (owns_set_none h2).2
  tb := R.tb
/-- a slot is known as what stands in it -/
theorem Rel.put (R : Rel K F B H σ ρ) {i : Nat} (hs : σ[i]? = some (some v)) (r : RV K F B H σ (ρ.set i none) v sv) : Rel K F B H σ (ρ.set i (some sv)) where
  exB := R.exB
  exF := R.exF
  dis := R.dis
  len := by rw [List.length_set]; exact R.len
  slot := fun j s h => by
    by_cases e : i = j
    · subst e
      obtain ⟨hl, _⟩ := List.getElem?_eq_some_iff.mp h
      rw [List.length_set] at hl
      rw [List.getElem?_set_self hl] at h
      cases h
      rw [hs]
      cases r with
      | sh r => exact .sh r
      | fr hF hB hH hO r no => exact .fr hF hB hH hO r
    · rw [List.getElem?_set_ne e] at h
      exact R.slot j s h
  sep := fun j k a h1 h2 => by
    have key : ∀ j, Owns σ (ρ.set i (some sv)) j a → j = i ∨ (j ≠ i ∧ Owns σ (ρ.set i none) j a) := fun j h => by
      by_cases e : j = i
      · exact .inl e
      · obtain ⟨⟨ds, q1⟩, q2⟩ := h
        rw [List.getElem?_set_ne (Ne.symm e)] at q1
        exact .inr ⟨e, ⟨ds, by rw [List.getElem?_set_ne (Ne.symm e)]; exact q1⟩, q2⟩
    have at_i : Owns σ (ρ.set i (some sv)) i a → ∀ k, ¬ Owns σ (ρ.set i none) k a := fun h k hk => by
      obtain ⟨⟨ds, q1⟩, q2⟩ := h
      obtain ⟨hl, _⟩ := List.getElem?_eq_some_iff.mp q1
      rw [List.length_set] at hl
      rw [List.getElem?_set_self hl] at q1
      cases q1
      rw [hs] at q2
      cases q2
      cases r with
      | fr hF hB hH hO r no => exact no k hk
    rcases key j h1 with rfl | ⟨n1, o1⟩
    · rcases key k h2 with rfl | ⟨n2, o2⟩
      · rfl
      · exact (at_i h1 k o2).elim
    · rcases key k h2 with rfl | ⟨n2, o2⟩
      · exact (at_i h2 j o1).elim
      · exact R.sep j k a (owns_set_none o1).2 (owns_set_none o2).2
  tb := R.tb
theorem Rel.freeze (R : Rel K F B H σ ρ) {i : Nat} {c : OC} (h : ρ[i]? = some (some (.ow c))) :
    ∃ a B', σ[i]? = some (some (.ref a)) ∧ Rel K F B' H σ (ρ.set i (some (.sh c.d))) ∧ Same B B' ∧ Rep K B' (.ref a) c.d := by
  have s := R.slot i _ h
  generalize hg : σ[i]? = w at s
  cases s with
  | @fr a o xs _ hF hB hH hO r =>
    have no : ∀ j, ¬ Owns σ (ρ.set i none) j a := fun j hj => by
      obtain ⟨n, oj⟩ := owns_set_none hj
      exact n (R.sep j i a oj ⟨⟨_, h⟩, hg⟩)
    obtain ⟨R', sm⟩ := (R.drop i).share hF hB hH no (plain_at hO).1
    have rep : Rep K (upd B a o) (.ref a) c.d := OC.rep upd_same hO (r.mono sm _ _)
    refine ⟨a, _, rfl, ?_, sm, rep⟩
    have R2 := R'.put (i := i) (sv := .sh c.d) hg (.sh rep)
    rw [List.set_set] at R2
    exact R2
theorem Rel.move (R : Rel K F B H σ ρ) {i : Nat} {c : OC} (h : ρ[i]? = some (some (.ow c))) :
    ∃ a, σ[i]? = some (some (.ref a)) ∧ Rel K F B H σ (ρ.set i none) ∧ RV K F B H σ (ρ.set i none) (.ref a) (.ow c) := by
  have s := R.slot i _ h
  generalize hg : σ[i]? = w at s
  cases s with
  | @fr a o xs _ hF hB hH hO r =>
    refine ⟨a, rfl, R.drop i, .fr hF hB hH hO r fun j hj => ?_⟩
    obtain ⟨n, oj⟩ := owns_set_none hj
    exact n (R.sep j i a oj ⟨⟨_, h⟩, hg⟩)
end

/-! ### names, constants, operands -/
def vVar (i : Nat) : M SV := fun ρ => match ρ[i]? with
  | some (some (.sh d)) => some (.ok (.sh d) ρ)
  | some (some (.ow c)) => some (.ok (.sh c.d) (ρ.set i (some (.sh c.d))))
  | _ => none
def vMv (i : Nat) : M SV := fun ρ => match ρ[i]? with
  | some (some (.sh d)) => some (.ok (.sh d) ρ)
  | some (some (.ow c)) => some (.ok (.ow c) (ρ.set i none))
  | _ => none
def oPk (i : Nat) : M Op := fun ρ => match ρ[i]? with
  | some (some _) => some (.ok (.slot i) ρ)
  | _ => none
def vC (d : D) : M SV := ret (.sh d)
def oOf (f : M SV) : M Op := bnd f fun sv => ret (.val sv.d)
def aNil : M (List Op) := ret []
def aCons (a : M Op) (as : M (List Op)) : M (List Op) := bnd a fun o => bnd as fun os => ret (o :: os)
section
variable {cv : Nat → Value} {X : Cx} {W : WX} {e : Expr} {es : List Expr} {t : TE} {f : M SV}
theorem slot_val {K : PySem.W.Frag} {F B H : Hp} {o : Option (Option V)} {sv : SV} (s : SlotOk K F B H o sv) : ∃ v, o = some (some v) := by
  cases s with
  | sh r => exact ⟨_, rfl⟩
  | fr _ _ _ _ _ => exact ⟨_, rfl⟩
theorem snd_var {x : Str} {i : Nat} (p : PE X e (tVar i)) : SndE cv X W e (tVar i) (vVar i) := by
  refine ⟨p, fun F B H σ ρ Q R h => ?_⟩
  unfold wpm vVar at h
  cases e1 : ρ[i]? with
  | none =>
    rw [e1] at h
    exact h.elim
  | some q =>
    rw [e1] at h
    cases q with
    | none => exact h.elim
    | some sv =>
      cases sv with
      | sh d =>
        have s := R.slot i _ e1
        generalize hg : σ[i]? = w at s
        cases s with
        | sh r => exact ⟨_, hg, h _ B H R (Same.refl _) (.sh r)⟩
      | ow l =>
        obtain ⟨a, B', hs, R', sm, rep⟩ := R.freeze e1
        exact ⟨_, hs, h _ B' H R' sm (.sh rep)⟩
theorem snd_mv {i : Nat} (p : PE X e (tVar i)) : SndE cv X W e (tVar i) (vMv i) := by
  refine ⟨p, fun F B H σ ρ Q R h => ?_⟩
  unfold wpm vMv at h
  cases e1 : ρ[i]? with
  | none =>
    rw [e1] at h
    exact h.elim
  | some q =>
    rw [e1] at h
    cases q with
    | none => exact h.elim
    | some sv =>
      cases sv with
      | sh d =>
        have s := R.slot i _ e1
        generalize hg : σ[i]? = w at s
        cases s with
        | sh r => exact ⟨_, hg, h _ B H R (Same.refl _) (.sh r)⟩
      | ow l =>
        obtain ⟨a, hs, R', rv⟩ := R.move e1
        exact ⟨_, hs, h _ B H R' (Same.refl _) rv⟩
theorem snd_pk {i : Nat} (p : PE X e (tVar i)) : SndO cv X W e (tVar i) (oPk i) := by
  refine ⟨p, fun F B H σ ρ Q R h => ?_⟩
  unfold wpm oPk at h
  cases e1 : ρ[i]? with
  | none =>
    rw [e1] at h
    exact h.elim
  | some q =>
    rw [e1] at h
    cases q with
    | none => exact h.elim
    | some sv =>
      obtain ⟨v, hv⟩ := slot_val (R.slot i _ e1)
      exact ⟨v, hv, h v B H R (Same.refl _) (.slot hv)⟩
theorem snd_c {d : D} {v : V} (p : PE X e (tC v)) (r : ∀ H, Rep X.K H v d) : SndE cv X W e (tC v) (vC d) :=
  ⟨p, fun F B H σ ρ Q R h => h v B H R (Same.refl _) (.sh (r _))⟩
theorem snd_int {i : Int} {j : Nat} {pos : Pos} : SndE cv X W (.Constant (.int i) j pos) (tC (.int i)) (vC (.int i)) := snd_c pe_int fun _ => .int i
theorem snd_bl {b : Bool} {j : Nat} {pos : Pos} : SndE cv X W (.Constant (.bool b) j pos) (tC (.bl b)) (vC (.bl b)) := snd_c pe_bl fun _ => .bl b
theorem snd_non {j : Nat} {pos : Pos} : SndE cv X W (.Constant .none j pos) (tC .non) (vC .non) := snd_c pe_non fun _ => .non
theorem snd_str {s : Str} {j : Nat} {pos : Pos} : SndE cv X W (.Constant (.str s) j pos) (tC (.str s)) (vC (.str s)) := snd_c pe_str fun _ => .str s
theorem snd_o (h : SndE cv X W e t f) : SndO cv X W e t (oOf f) := by
  refine ⟨h.pe, fun F B H σ ρ Q R q => ?_⟩
  refine h.ad F B H σ ρ Q R (wpm_mono (wpm_bnd q) (fun sv ρ' q v B' H' R' sm rv => ?_) fun _ _ q => q)
  obtain ⟨B2, R2, sm2, rep⟩ := rv.freeze R'
  exact q v B2 H' R2 (sm.trans sm2) (.val rep)
theorem snd_anil : SndA cv X W [] tNil aNil := ⟨pa_nil, fun F B H σ ρ Q R h => h [] B H R (Same.refl _) .nil⟩
theorem snd_acons {ta : TE} {ts : TA} {a : M Op} {as : M (List Op)} (ha : SndO cv X W e ta a) (hs : SndA cv X W es ts as) (hst : starEach (e :: es) X.env = (false, eval e X.env) :: starEach es X.env := by rfl) :
    SndA cv X W (e :: es) (tCons ta ts) (aCons a as) := by
  refine ⟨pa_cons ha.pe hs.pa hst, fun F B H σ ρ Q R q => ?_⟩
  refine ha.ad F B H σ ρ _ R (wpm_mono (wpm_bnd q) (fun o ρ1 q v B1 H1 R1 sm1 ov => ?_) fun _ _ q => q)
  refine hs.ad F B1 H1 σ ρ1 _ R1 (wpm_mono (wpm_bnd q) (fun os ρ2 q vs B2 H2 R2 sm2 ovs => ?_) fun c ρ2 q B2 H2 R2 sm2 => q B2 H2 R2 (sm1.trans sm2))
  exact q (v :: vs) B2 H2 R2 (sm1.trans sm2) (.cons (ov.mono sm2) ovs)
end

/-! ### operators -/
def lift1 (g : D → Option SV) (o : Op) : M SV := fun ρ => match get ρ o with
  | some x => (g x).map fun sv => .ok sv ρ
  | none => none
def lift2 (g : D → D → Option SV) (o p : Op) : M SV := fun ρ => match get ρ o, get ρ p with
  | some x, some y => (g x y).map fun sv => .ok sv ρ
  | _, _ => none
def liftA (g : List D → Option SV) (os : List Op) : M SV := fun ρ => match gets ρ os with
  | some xs => (g xs).map fun sv => .ok sv ρ
  | none => none
def vOp1 (g : D → Option SV) (a : M Op) : M SV := bnd a (lift1 g)
def vOp2 (g : D → D → Option SV) (a b : M Op) : M SV := bnd a fun o => bnd b (lift2 g o)
def vBi (g : List D → Option SV) (as : M (List Op)) : M SV := bnd as (liftA g)
def Ok2 (K : PySem.W.Frag) (r : R2) (g : D → D → Option SV) : Prop :=
  ∀ (F B H : Hp) (σ : L2.St) (ρ : Sl) (x y : V) (dx dy : D) (sv : SV) (Q : VK), Rel K F B H σ ρ → OpRep K B H x dx → OpRep K B H y dy → g dx dy = some sv →
    (∀ v B' H', Rel K F B' H' σ ρ → Same B B' → RV K F B' H' σ ρ v sv → Q v H') → r x y H Q
def OkA (K : PySem.W.Frag) (r : List V → Hp → VK → Prop) (g : List D → Option SV) : Prop :=
  ∀ (F B H : Hp) (σ : L2.St) (ρ : Sl) (xs : List V) (ds : List D) (sv : SV) (Q : VK), Rel K F B H σ ρ → OpReps K B H xs ds → g ds = some sv →
    (∀ v B' H', Rel K F B' H' σ ρ → Same B B' → RV K F B' H' σ ρ v sv → Q v H') → r xs H Q
section
variable {cv : Nat → Value} {X : Cx} {W : WX} {e a b : Expr} {es : List Expr} {ta tb : TE} {ts : TA} {fa fb : M Op} {fs : M (List Op)}
theorem adm_op2 {r : R2} {g : D → D → Option SV} (ok : Ok2 X.K r g) (ha : SndO cv X W a ta fa) (hb : SndO cv X W b tb fb) : Adm cv W X.K (tOp r ta tb) (vOp2 g fa fb) (RV X.K) := by
  intro F B H σ ρ Q R q
  refine ha.ad F B H σ ρ _ R (wpm_mono (wpm_bnd q) (fun o ρ1 q v B1 H1 R1 sm1 ov => ?_) fun _ _ q => q)
  refine hb.ad F B1 H1 σ ρ1 _ R1 (wpm_mono (wpm_bnd q) (fun p ρ2 q w B2 H2 R2 sm2 ow => ?_) fun c ρ2 q B2 H2 R2 sm2 => q B2 H2 R2 (sm1.trans sm2))
  unfold wpm lift2 at q
  cases e1 : get ρ2 o with
  | none =>
    rw [e1] at q
    exact q.elim
  | some x =>
    cases e2 : get ρ2 p with
    | none =>
      rw [e1, e2] at q
      exact q.elim
    | some y =>
      rw [e1, e2] at q
      cases e3 : g x y with
      | none =>
        simp only [e3, Option.map_none] at q
      | some sv =>
        simp only [e3, Option.map_some] at q
        exact ok F B2 H2 σ ρ2 v w x y sv Q R2 ((ov.mono sm2).rep R2 e1) (ow.rep R2 e2) e3 fun u B3 H3 R3 sm3 rv => q u B3 H3 R3 ((sm1.trans sm2).trans sm3) rv
theorem adm_bi {r : List V → Hp → VK → Prop} {g : List D → Option SV} (ok : OkA X.K r g) (ha : SndA cv X W es ts fs) : Adm cv W X.K (tCB r ts) (vBi g fs) (RV X.K) := by
  intro F B H σ ρ Q R q
  refine ha.ad F B H σ ρ _ R (wpm_mono (wpm_bnd q) (fun o ρ1 q v B1 H1 R1 sm1 ov => ?_) fun _ _ q => q)
  unfold wpm liftA at q
  cases e1 : gets ρ1 o with
  | none =>
    rw [e1] at q
    exact q.elim
  | some x =>
    rw [e1] at q
    cases e3 : g x with
    | none => simp only [e3, Option.map_none] at q
    | some sv =>
      simp only [e3, Option.map_some] at q
      exact ok F B1 H1 σ ρ1 v x sv Q R1 (ov.rep R1 e1) e3 fun u B3 H3 R3 sm3 rv => q u B3 H3 R3 (sm1.trans sm3) rv
theorem snd_bin {op : Operator} {r : R2} {g : D → D → Option SV} {pos : Pos} (ho : OpR X (binaryOp op) r) (ok : Ok2 X.K r g) (ha : SndO cv X W a ta fa) (hb : SndO cv X W b tb fb) :
    SndE cv X W (.BinOp a op b pos) (tOp r ta tb) (vOp2 g fa fb) := ⟨pe_op ho ha.pe hb.pe, adm_op2 ok ha hb⟩
end

/-! ### arithmetic -/
/-- the factors' sizes together -/
def MulOk (i j : Int) : Prop := (-(2 ^ 64) < i ∧ i < 2 ^ 64) ∨ (-(2 ^ 64) < j ∧ j < 2 ^ 64) ∨ i.natAbs.log2 + j.natAbs.log2 < 1000000
instance (i j : Int) : Decidable (MulOk i j) := by unfold MulOk; infer_instance
theorem MulOk.ok {i j : Int} (h : MulOk i j) : IntMulOk i j := by
  rcases h with h | h | h
  · exact CMul.ok (.inl h)
  · exact CMul.ok (.inr h)
  · exact CMulW.ok h
def DivOk (_ j : Int) : Prop := j ≠ 0 ∧ j.natAbs.log2 < 9000
instance (i j : Int) : Decidable (DivOk i j) := by unfold DivOk; infer_instance
def PowOk (i j : Int) : Prop := 0 ≤ j ∧ j ≤ 1000000 ∧ i.natAbs < 2 ^ 64
instance (i j : Int) : Decidable (PowOk i j) := by unfold PowOk; infer_instance
def gAdd : D → D → Option SV
  | .int i, .int j => some (.sh (.int (i + j)))
  | .lst l, .lst m => if l.length + m.length ≤ 1000000 then some (.fr (l ++ m)) else none
  | .str s, .str u => if s.length + u.length ≤ 1000000 then some (.sh (.str (s ++ u))) else none
  | _, _ => none
def gSub : D → D → Option SV
  | .int i, .int j => some (.sh (.int (i - j)))
  | _, _ => none
def gMul : D → D → Option SV
  | .int i, .int j => if MulOk i j then some (.sh (.int (i * j))) else none
  | _, _ => none
def gDiv : D → D → Option SV
  | .int i, .int j => if DivOk i j then some (.sh (.int (i.fdiv j))) else none
  | _, _ => none
def gMod : D → D → Option SV
  | .int i, .int j => if j ≠ 0 then some (.sh (.int (i.fmod j))) else none
  | _, _ => none
def gPow : D → D → Option SV
  | .int i, .int j => if PowOk i j then some (.sh (.int (i ^ j.toNat))) else none
  | _, _ => none
def gNeg : D → Option SV
  | .int i => some (.sh (.int (-i)))
  | _ => none
def rAdd3 : R2 := fun x y H Q => (∃ i j, x = .int i ∧ y = .int j ∧ Q (.int (i + j)) H) ∨ (rCat x y H Q ∨ (∃ i j, x = .str i ∧ y = .str j ∧ i.length + j.length ≤ sizeLine ∧ Q (.str (i ++ j)) H))
theorem mill_le {n : Nat} (h : n ≤ 1000000) : n ≤ sizeLine := Nat.le_trans h (by decide)
theorem mill_lt {n : Nat} (h : n < 1000000) : n < sizeLine := Nat.lt_of_lt_of_le h (by decide)
section
variable {X : Cx} {K : PySem.W.Frag}
theorem op_add3 : OpR X (binaryOp .Add) rAdd3 := OpR.or op_add (OpR.or op_cat op_add_str)
theorem op_mul3 : OpR X (binaryOp .Mult) (rI MulOk fun i j => .int (i * j)) := opI fun _ _ _ _ _ _ _ hc q => mul_int q hc.ok
theorem op_div3 : OpR X (binaryOp .FloorDiv) (rI DivOk fun i j => .int (i.fdiv j)) := opI fun i j _ _ _ _ _ hc q =>
  floordiv_int hc.1 q (.inl (PyProof.noPylong_of_log2 hc.2))
theorem ok_add : Ok2 K rAdd3 gAdd := by
  intro F B H σ ρ x y dx dy sv Q R hx hy hg q
  unfold gAdd at hg
  split at hg
  · cases hg
    exact .inl ⟨_, _, hx.int, hy.int, q _ B H R (Same.refl _) (.sh (.int _))⟩
  · rename_i l m
    split at hg
    · rename_i hl
      cases hg
      obtain ⟨a, xs, rfl, h1, r1⟩ := hx.lst R.exB
      obtain ⟨b, ys, rfl, h2, r2⟩ := hy.lst R.exB
      refine .inr (.inl ⟨a, b, xs, ys, rfl, rfl, h1, h2, ?_, fun p hp => q _ B _ (R.new hp) (Same.refl _) (RV.newL R hp (r1.append r2))⟩)
      rw [r1.length, r2.length]
      exact mill_le hl
    · cases hg
  · split at hg
    · rename_i hl
      cases hg
      exact .inr (.inr ⟨_, _, hx.str, hy.str, mill_le hl, q _ B H R (Same.refl _) (.sh (.str _))⟩)
    · cases hg
  · cases hg
theorem ok_sub : Ok2 K (rI0 fun i j => .int (i - j)) gSub := by
  intro F B H σ ρ x y dx dy sv Q R hx hy hg q
  unfold gSub at hg
  split at hg
  · cases hg
    exact ⟨_, _, hx.int, hy.int, q _ B H R (Same.refl _) (.sh (.int _))⟩
  · cases hg
theorem ok_mul : Ok2 K (rI MulOk fun i j => .int (i * j)) gMul := by
  intro F B H σ ρ x y dx dy sv Q R hx hy hg q
  unfold gMul at hg
  split at hg
  · split at hg
    · rename_i hc
      cases hg
      exact ⟨_, _, hx.int, hy.int, hc, q _ B H R (Same.refl _) (.sh (.int _))⟩
    · cases hg
  · cases hg
theorem ok_div : Ok2 K (rI DivOk fun i j => .int (i.fdiv j)) gDiv := by
  intro F B H σ ρ x y dx dy sv Q R hx hy hg q
  unfold gDiv at hg
  split at hg
  · split at hg
    · rename_i hc
      cases hg
      exact ⟨_, _, hx.int, hy.int, hc, q _ B H R (Same.refl _) (.sh (.int _))⟩
    · cases hg
  · cases hg
theorem ok_mod : Ok2 K (rI (fun _ j => j ≠ 0) fun i j => .int (i.fmod j)) gMod := by
  intro F B H σ ρ x y dx dy sv Q R hx hy hg q
  unfold gMod at hg
  split at hg
  · split at hg
    · rename_i hc
      cases hg
      exact ⟨_, _, hx.int, hy.int, hc, q _ B H R (Same.refl _) (.sh (.int _))⟩
    · cases hg
  · cases hg
theorem ok_pow : Ok2 K (rI CPow fun i j => .int (i ^ j.toNat)) gPow := by
  intro F B H σ ρ x y dx dy sv Q R hx hy hg q
  unfold gPow at hg
  split at hg
  · split at hg
    · rename_i hc
      cases hg
      exact ⟨_, _, hx.int, hy.int, hc, q _ B H R (Same.refl _) (.sh (.int _))⟩
    · cases hg
  · cases hg
end
section
variable {cv : Nat → Value} {X : Cx} {W : WX} {a b : Expr} {ta tb : TE} {fa fb : M Op} {pos : Pos}
theorem snd_add (ha : SndO cv X W a ta fa) (hb : SndO cv X W b tb fb) : SndE cv X W (.BinOp a .Add b pos) (tOp rAdd3 ta tb) (vOp2 gAdd fa fb) := snd_bin op_add3 ok_add ha hb
theorem snd_sub (ha : SndO cv X W a ta fa) (hb : SndO cv X W b tb fb) : SndE cv X W (.BinOp a .Sub b pos) (tOp (rI0 fun i j => .int (i - j)) ta tb) (vOp2 gSub fa fb) := snd_bin op_sub ok_sub ha hb
theorem snd_mul (ha : SndO cv X W a ta fa) (hb : SndO cv X W b tb fb) : SndE cv X W (.BinOp a .Mult b pos) (tOp (rI MulOk fun i j => .int (i * j)) ta tb) (vOp2 gMul fa fb) := snd_bin op_mul3 ok_mul ha hb
theorem snd_div (ha : SndO cv X W a ta fa) (hb : SndO cv X W b tb fb) : SndE cv X W (.BinOp a .FloorDiv b pos) (tOp (rI DivOk fun i j => .int (i.fdiv j)) ta tb) (vOp2 gDiv fa fb) := snd_bin op_div3 ok_div ha hb
theorem snd_mod (ha : SndO cv X W a ta fa) (hb : SndO cv X W b tb fb) : SndE cv X W (.BinOp a .Mod b pos) (tOp (rI (fun _ j => j ≠ 0) fun i j => .int (i.fmod j)) ta tb) (vOp2 gMod fa fb) := snd_bin op_modN ok_mod ha hb
theorem snd_pow (ha : SndO cv X W a ta fa) (hb : SndO cv X W b tb fb) : SndE cv X W (.BinOp a .Pow b pos) (tOp (rI CPow fun i j => .int (i ^ j.toNat)) ta tb) (vOp2 gPow fa fb) := snd_bin op_pow ok_pow ha hb
end

/-! ### comparisons -/
mutual
def toPy : D → PyData
  | .non => .none
  | .bl b => .bool b
  | .int i => .int i
  | .str s => .str s
  | .tup l => .tuple (toPyL l)
  | .lst l => .list (toPyL l)
  | .scr l => .list (l.map PyData.int)
  | .dct _ _ => .dict []
  | .dck _ _ => .dict []
  | .ob _ _ _ => .dict []
  | .adr _ => .dict []
  | .fn _ _ _ => .dict []
  | .lv _ => .dict []
def toPyL : List D → List PyData
  | [] => []
  | d :: ds => toPy d :: toPyL ds
end
theorem dp_ints {K : PySem.W.Frag} {H : Hp} : ∀ ns : List Int, DpAll K H (ns.map V.int) (ns.map PyData.int)
  | [] => .nil
  | n :: ns => .cons (.int n) (dp_ints ns)
mutual
theorem Rep.dp {K : PySem.W.Frag} {H : Hp} : ∀ (d : D) (v : V), (toPy d).canLay0 = true → Rep K H v d → Dp K H v (toPy d)
  | .non, _, _, .non => .non
  | .bl _, _, _, .bl b => .bl b
  | .int _, _, _, .int i => .int i
  | .str _, _, _, .str s => .str s
  | .tup ds, _, hc, .tup h r => by
    unfold toPy at hc ⊢
    exact .tup h.sq (RepL.dp ds _ hc r)
  | .lst ds, _, hc, .lst h r => by
    unfold toPy at hc ⊢
    exact .lst (SqL.of h) (RepL.dp ds _ hc r)
  | .scr _, _, _, .scr h => by
    unfold toPy
    exact .lst h (dp_ints _)
  | .dct _ _, _, hc, _ => by
    unfold toPy at hc
    exact nomatch hc
  | .dck _ _, _, hc, _ => by
    unfold toPy at hc
    exact nomatch hc
  | .ob _ _ _, _, hc, _ => by
    unfold toPy at hc
    exact nomatch hc
  | .adr _, _, hc, _ => by
    unfold toPy at hc
    exact nomatch hc
  | .lv _, _, hc, _ => by
    unfold toPy at hc
    exact nomatch hc
  | .fn _ _ _, _, hc, _ => by
    unfold toPy at hc
    exact nomatch hc
theorem RepL.dp {K : PySem.W.Frag} {H : Hp} : ∀ (ds : List D) (vs : List V), PyData.canLayAll0 (toPyL ds) = true → RepL K H vs ds → DpAll K H vs (toPyL ds)
  | [], _, _, .nil => by
    unfold toPyL
    exact .nil
  | d :: ds, _, hc, .cons h t => by
    unfold toPyL at hc ⊢
    have hc2 : (toPy d).canLay0 = true ∧ PyData.canLayAll0 (toPyL ds) = true := Bool.and_eq_true_iff.mp hc
    exact .cons (Rep.dp d _ hc2.1 h) (RepL.dp ds _ hc2.2 t)
end
def okPy (d : D) : Bool := SeqAt.shaped (toPy d)
def eqD (a b : D) : Bool := PyData.eqv (toPy a) (toPy b)
def gEq (x y : D) : Option SV := if okPy x = true ∧ okPy y = true then some (.sh (.bl (eqD x y))) else none
def gNe (x y : D) : Option SV := if okPy x = true ∧ okPy y = true then some (.sh (.bl (!eqD x y))) else none
def gCmp (p : Int → Int → Bool) : D → D → Option SV
  | .int i, .int j => some (.sh (.bl (p i j)))
  | _, _ => none
def tst (f : M SV) : M Bool := bnd f fun sv ρ => match sv with
  | .sh (.bl b) => some (.ok b ρ)
  | _ => none
section
variable {X : Cx} {K : PySem.W.Frag}
theorem ok_eq : Ok2 K (rEqD K) gEq := by
  intro F B H σ ρ x y dx dy sv Q R hx hy hg q
  unfold gEq at hg
  split at hg
  · rename_i hc
    cases hg
    exact ⟨_, _, Rep.dp _ _ (SeqAt.canLay_of_shaped hc.1) (hx.rep R.exB), Rep.dp _ _ (SeqAt.canLay_of_shaped hc.2) (hy.rep R.exB), hc.1, hc.2, q _ B H R (Same.refl _) (.sh (.bl _))⟩
  · cases hg
theorem ok_ne : Ok2 K (rNeD K) gNe := by
  intro F B H σ ρ x y dx dy sv Q R hx hy hg q
  unfold gNe at hg
  split at hg
  · rename_i hc
    cases hg
    exact ⟨_, _, Rep.dp _ _ (SeqAt.canLay_of_shaped hc.1) (hx.rep R.exB), Rep.dp _ _ (SeqAt.canLay_of_shaped hc.2) (hy.rep R.exB), hc.1, hc.2, q _ B H R (Same.refl _) (.sh (.bl _))⟩
  · cases hg
theorem ok_cmp {p : Int → Int → Bool} : Ok2 K (rI0 fun i j => .bl (p i j)) (gCmp p) := by
  intro F B H σ ρ x y dx dy sv Q R hx hy hg q
  unfold gCmp at hg
  split at hg
  · cases hg
    exact ⟨_, _, hx.int, hy.int, q _ B H R (Same.refl _) (.sh (.bl _))⟩
  · cases hg
end
structure SndB (cv : Nat → Value) (X : Cx) (W : WX) (e : Expr) (t : TT) (f : M Bool) : Prop where
  pt : PT X e t
  ad : Adm cv W X.K t f (fun _ _ _ _ _ b b' => b = b')
structure SndV (cv : Nat → Value) (X : Cx) (W : WX) (e : Expr) (t : TT) (f : M Bool) : Prop where
  pw : PW X e t
  ad : Adm cv W X.K t f (fun _ _ _ _ _ b b' => b = b')
theorem adm_tst {cv : Nat → Value} {K : PySem.W.Frag} {W : WX} {t : TE} {f : M SV} (h : Adm cv W K t f (RV K)) : Adm cv W K (fun σ H Q => t σ H fun x H' => ∃ k, x = .bl k ∧ Q k H') (tst f) (fun _ _ _ _ _ b b' => b = b') := by
  intro F B H σ ρ Q R q
  refine h F B H σ ρ _ R (wpm_mono (wpm_bnd q) (fun sv ρ1 q v B1 H1 R1 sm1 rv => ?_) fun _ _ q => q)
  unfold wpm at q
  split at q
  · exact q.elim
  · rename_i e1
    split at e1
    · cases e1
      cases rv with
      | sh r =>
        cases r
        exact ⟨_, rfl, q _ B1 H1 R1 sm1 rfl⟩
    · cases e1
  · rename_i e1
    split at e1 <;> cases e1
def tand (a b : M Bool) : M Bool := bnd a fun x => if x = true then b else ret false
def tor (a b : M Bool) : M Bool := bnd a fun x => if x = true then ret true else b
def tnot (a : M Bool) : M Bool := bnd a fun x => ret (!x)
def vand (a : M SV) (b : M SV) : M SV := bnd (tst a) fun x => if x = true then b else ret (.sh (.bl false))
def vor (a : M SV) (b : M SV) : M SV := bnd (tst a) fun x => if x = true then ret (.sh (.bl true)) else b
def vnot (a : M SV) : M SV := bnd (tst a) fun x => ret (.sh (.bl (!x)))
def vif (c : M Bool) (a b : M SV) : M SV := bnd c fun x => if x = true then a else b
section
variable {cv : Nat → Value} {X : Cx} {W : WX} {e a b : Expr} {rest : List Expr} {ta tb : TE} {t u : TT} {fa fb : M Op} {f g : M SV} {m n : M Bool} {pos : Pos}
theorem snd_cmp {op : CmpOp} {r : R2} {g : D → D → Option SV} (ho : OpR X (compareOp op) r) (ok : Ok2 X.K r g) (ha : SndO cv X W a ta fa) (hb : SndO cv X W b tb fb) (hm : behindInMarks op b = false) :
    SndE cv X W (.Compare a [op] [b] pos) (tOp r ta tb) (vOp2 g fa fb) := ⟨pe_cmpR ho ha.pe hb.pe hm, adm_op2 ok ha hb⟩
theorem snb_cmp {op : CmpOp} {r : R2} {g : D → D → Option SV} (ho : OpR X (compareOp op) r) (ok : Ok2 X.K r g) (ha : SndO cv X W a ta fa) (hb : SndO cv X W b tb fb) (hm : behindInMarks op b = false) :
    SndB cv X W (.Compare a [op] [b] pos) (tTest (tOp r ta tb)) (tst (vOp2 g fa fb)) := ⟨pt_cmpR ho ha.pe hb.pe hm, adm_tst (adm_op2 ok ha hb)⟩
theorem snb_val (h : SndE cv X W e ta f) (he : ∀ whole, isTrue e X.env whole = (do let v ← whole; standAt e.pos; holding [v] (truthy v)) := by intro _; rfl) : SndB cv X W e (tB ta) (tst f) := ⟨pt_val h.pe he, adm_tst h.ad⟩
theorem snb_v (h : SndV cv X W e t m) : SndB cv X W e t m := ⟨h.pw.pt, h.ad⟩
theorem snv_and1 (h : SndB cv X W a t m) : SndV cv X W (.BoolOp .And [a] pos) t m := ⟨pw_and1 h.pt, h.ad⟩
theorem snv_or1 (h : SndB cv X W a t m) : SndV cv X W (.BoolOp .Or [a] pos) t m := ⟨pw_or1 h.pt, h.ad⟩
theorem snv_and (ha : SndB cv X W a t m) (hb : SndV cv X W (.BoolOp .And (b :: rest) pos) u n) : SndV cv X W (.BoolOp .And (a :: b :: rest) pos) (tAnd t u) (tand m n) := by
  refine ⟨pw_and ha.pt hb.pw, fun F B H σ ρ Q R q => ?_⟩
  refine ha.ad F B H σ ρ _ R (wpm_mono (wpm_bnd q) (fun x ρ1 q b' B1 H1 R1 sm1 e1 => ?_) fun _ _ q => q)
  subst e1
  cases b' with
  | true => exact hb.ad F B1 H1 σ ρ1 Q R1 (wpm_mono q (fun x ρ2 q v B2 H2 R2 sm2 e2 => q v B2 H2 R2 (sm1.trans sm2) e2) fun c ρ2 q B2 H2 R2 sm2 => q B2 H2 R2 (sm1.trans sm2))
  | false => exact q false B1 H1 R1 sm1 rfl
theorem snv_or (ha : SndB cv X W a t m) (hb : SndV cv X W (.BoolOp .Or (b :: rest) pos) u n) : SndV cv X W (.BoolOp .Or (a :: b :: rest) pos) (tOr t u) (tor m n) := by
  refine ⟨pw_or ha.pt hb.pw, fun F B H σ ρ Q R q => ?_⟩
  refine ha.ad F B H σ ρ _ R (wpm_mono (wpm_bnd q) (fun x ρ1 q b' B1 H1 R1 sm1 e1 => ?_) fun _ _ q => q)
  subst e1
  cases b' with
  | false => exact hb.ad F B1 H1 σ ρ1 Q R1 (wpm_mono q (fun x ρ2 q v B2 H2 R2 sm2 e2 => q v B2 H2 R2 (sm1.trans sm2) e2) fun c ρ2 q B2 H2 R2 sm2 => q B2 H2 R2 (sm1.trans sm2))
  | true => exact q true B1 H1 R1 sm1 rfl
theorem snb_not (ha : SndB cv X W a t m) : SndB cv X W (.UnaryOp .Not a pos) (tNot t) (tnot m) := by
  refine ⟨pt_not ha.pt, fun F B H σ ρ Q R q => ?_⟩
  refine ha.ad F B H σ ρ _ R (wpm_mono (wpm_bnd q) (fun x ρ1 q b' B1 H1 R1 sm1 e1 => ?_) fun _ _ q => q)
  subst e1
  exact q _ B1 H1 R1 sm1 rfl
theorem snd_one {op : BoolOp} (h : SndE cv X W a ta f) : SndE cv X W (.BoolOp op [a] pos) ta f := ⟨pe_one h.pe, h.ad⟩
theorem snd_and (ha : SndE cv X W a ta f) (hb : SndE cv X W (.BoolOp .And (b :: rest) pos) tb g) : SndE cv X W (.BoolOp .And (a :: b :: rest) pos) (tAndV ta tb) (vand f g) := by
  refine ⟨pe_and ha.pe hb.pe, fun F B H σ ρ Q R q => ?_⟩
  have k := adm_tst ha.ad F B H σ ρ (fun c H1 => if c = true then tb σ H1 Q else Q (.bl false) H1) R (wpm_mono (wpm_bnd q) (fun x ρ1 q b' B1 H1 R1 sm1 e1 => ?_) fun _ _ q => q)
  · exact k
  · subst e1
    cases b' with
    | true => exact hb.ad F B1 H1 σ ρ1 Q R1 (wpm_mono q (fun x ρ2 q v B2 H2 R2 sm2 e2 => q v B2 H2 R2 (sm1.trans sm2) e2) fun c ρ2 q B2 H2 R2 sm2 => q B2 H2 R2 (sm1.trans sm2))
    | false => exact q _ B1 H1 R1 sm1 (.sh (.bl false))
theorem snd_if {c : Expr} (hc : SndB cv X W c t m) (ha : SndE cv X W a ta f) (hb : SndE cv X W b tb g) : SndE cv X W (.IfExp c a b pos) (tIf t ta tb) (vif m f g) := by
  refine ⟨pe_ifExp hc.pt ha.pe hb.pe, fun F B H σ ρ Q R q => ?_⟩
  refine hc.ad F B H σ ρ _ R (wpm_mono (wpm_bnd q) (fun x ρ1 q b' B1 H1 R1 sm1 e1 => ?_) fun _ _ q => q)
  subst e1
  cases b' with
  | true => exact ha.ad F B1 H1 σ ρ1 Q R1 (wpm_mono q (fun x ρ2 q v B2 H2 R2 sm2 e2 => q v B2 H2 R2 (sm1.trans sm2) e2) fun c ρ2 q B2 H2 R2 sm2 => q B2 H2 R2 (sm1.trans sm2))
  | false => exact hb.ad F B1 H1 σ ρ1 Q R1 (wpm_mono q (fun x ρ2 q v B2 H2 R2 sm2 e2 => q v B2 H2 R2 (sm1.trans sm2) e2) fun c ρ2 q B2 H2 R2 sm2 => q B2 H2 R2 (sm1.trans sm2))
end
theorem wpm_lift2 {g : D → D → Option SV} {o p : Op} {ρ : Sl} {Q : SV → Sl → Prop} {E : Nat → Sl → Prop} (q : wpm (lift2 g o p) ρ Q E) : ∃ x y sv, get ρ o = some x ∧ get ρ p = some y ∧ g x y = some sv ∧ Q sv ρ := by
  unfold wpm lift2 at q
  cases e1 : get ρ o with
  | none =>
    rw [e1] at q
    exact q.elim
  | some x =>
    cases e2 : get ρ p with
    | none =>
      rw [e1, e2] at q
      exact q.elim
    | some y =>
      rw [e1, e2] at q
      cases e3 : g x y with
      | none => simp only [e3, Option.map_none] at q
      | some sv =>
        simp only [e3, Option.map_some] at q
        exact ⟨x, y, sv, rfl, rfl, e3, q⟩
theorem wpm_lift1 {g : D → Option SV} {o : Op} {ρ : Sl} {Q : SV → Sl → Prop} {E : Nat → Sl → Prop} (q : wpm (lift1 g o) ρ Q E) : ∃ x sv, get ρ o = some x ∧ g x = some sv ∧ Q sv ρ := by
  unfold wpm lift1 at q
  cases e1 : get ρ o with
  | none =>
    rw [e1] at q
    exact q.elim
  | some x =>
    rw [e1] at q
    cases e3 : g x with
    | none => simp only [e3, Option.map_none] at q
    | some sv =>
      simp only [e3, Option.map_some] at q
      exact ⟨x, sv, rfl, e3, q⟩
theorem wpm_tst {f : M SV} {ρ : Sl} {Q : Bool → Sl → Prop} {E : Nat → Sl → Prop} (q : wpm (tst f) ρ Q E) : wpm f ρ (fun sv ρ' => ∃ b, sv = .sh (.bl b) ∧ Q b ρ') E := by
  refine wpm_mono (wpm_bnd q) (fun sv ρ' q => ?_) fun _ _ q => q
  unfold wpm at q
  split at q
  · exact q.elim
  · rename_i e1
    split at e1
    · cases e1
      exact ⟨_, rfl, q⟩
    · cases e1
  · rename_i e1
    split at e1 <;> cases e1
/-- a op b op' c -/
def vChain (g g' : D → D → Option SV) (a b c : M Op) : M SV := bnd a fun x => bnd b fun y => bnd (tst (lift2 g x y)) fun k => if k = true then bnd c fun z => lift2 g' y z else ret (.sh (.bl false))
section
variable {cv : Nat → Value} {X : Cx} {W : WX} {a b c : Expr} {ta tb tc : TE} {fa fb fc : M Op} {pos : Pos}
theorem adm_chain {r r' : R2} {g g' : D → D → Option SV} (ok : Ok2 X.K r g) (ok' : Ok2 X.K r' g') (ha : SndO cv X W a ta fa) (hb : SndO cv X W b tb fb) (hc : SndO cv X W c tc fc) :
    Adm cv W X.K (tChain r r' ta tb tc) (vChain g g' fa fb fc) (RV X.K) := by
  intro F B H σ ρ Q R q
  refine ha.ad F B H σ ρ _ R (wpm_mono (wpm_bnd q) (fun x ρ1 q v B1 H1 R1 sm1 ov => ?_) fun _ _ q => q)
  refine hb.ad F B1 H1 σ ρ1 _ R1 (wpm_mono (wpm_bnd q) (fun y ρ2 q w B2 H2 R2 sm2 ow => ?_) fun c ρ2 q B2 H2 R2 sm2 => q B2 H2 R2 (sm1.trans sm2))
  obtain ⟨dx, dy, sv, e1, e2, e3, k, rfl, q⟩ := wpm_lift2 (wpm_tst (wpm_bnd q))
  refine ok F B2 H2 σ ρ2 v w dx dy _ _ R2 ((ov.mono sm2).rep R2 e1) (ow.rep R2 e2) e3 fun u B3 H3 R3 sm3 rv => ?_
  cases rv with
  | sh r =>
    cases r
    refine ⟨k, rfl, ?_⟩
    cases k with
    | false => exact q _ B3 H3 R3 ((sm1.trans sm2).trans sm3) (.sh (.bl false))
    | true =>
      refine hc.ad F B3 H3 σ ρ2 _ R3 (wpm_mono (wpm_bnd q) (fun z ρ4 q w4 B4 H4 R4 sm4 oz => ?_) fun c ρ2 q B2 H2 R2 sm4 => q B2 H2 R2 (((sm1.trans sm2).trans sm3).trans sm4))
      obtain ⟨dy', dz, sv, f1, f2, f3, q⟩ := wpm_lift2 q
      exact ok' F B4 H4 σ ρ4 w w4 dy' dz sv Q R4 ((ow.mono (sm3.trans sm4)).rep R4 f1) (oz.rep R4 f2) f3 fun u B5 H5 R5 sm5 rv => q u B5 H5 R5 ((((sm1.trans sm2).trans sm3).trans sm4).trans sm5) rv
theorem snb_chain {op op' : CmpOp} {r r' : R2} {g g' : D → D → Option SV} (ho : OpR X (compareOp op) r) (ho' : OpR X (compareOp op') r') (ok : Ok2 X.K r g) (ok' : Ok2 X.K r' g') (ha : SndO cv X W a ta fa) (hb : SndO cv X W b tb fb) (hc : SndO cv X W c tc fc)
    (hm : lastMarks [op, op'] [b, c] = false := by with_unfolding_all rfl) : SndB cv X W (.Compare a [op, op'] [b, c] pos) (tTest (tChain r r' ta tb tc)) (tst (vChain g g' fa fb fc)) := ⟨pt_chain ho ho' ha.pe hb.pe hc.pe hm, adm_tst (adm_chain ok ok' ha hb hc)⟩
end
end Sim

namespace Sim
open PySem PySem.Spec PyProof.Rows L2

/-! ### displays -/
def vals : List Op → Option (List D)
  | [] => some []
  | .val d :: os => (vals os).map (d :: ·)
  | .slot _ :: _ => none
theorem OpVs.vals {K : PySem.W.Frag} {B : Hp} {σ : L2.St} : ∀ {vs : List V} {os : List Op} {ds : List D}, OpVs K B σ vs os → Sim.vals os = some ds → RepL K B vs ds
  | _, _, _, .nil, h => by
    cases h
    exact .nil
  | _, _, ds, .cons (os := os) (.val r) t, h => by
    unfold Sim.vals at h
    cases e : Sim.vals os with
    | none =>
      rw [e] at h
      cases h
    | some es =>
      rw [e] at h
      cases h
      exact .cons r (OpVs.vals t e)
  | _, _, _, .cons (.slot _) _, h => by
    unfold Sim.vals at h
    cases h
def vTup (as : M (List Op)) : M SV := bnd as fun os ρ => match vals os with
  | some ds => if ds.length ≤ 1000000 then some (.ok (.sh (.tup ds)) ρ) else none
  | none => none
def vLst (as : M (List Op)) : M SV := bnd as fun os ρ => match vals os with
  | some ds => if ds.length ≤ 1000000 then some (.ok (.fr ds) ρ) else none
  | none => none
section
variable {cv : Nat → Value} {X : Cx} {W : WX} {es : List Expr} {ts : TA} {fs : M (List Op)} {pos : Pos}
theorem snd_tup {k : Nat} (ha : SndA cv X W es ts fs) : SndE cv X W (.Tuple es k pos) (tTup ts) (vTup fs) := by
  refine ⟨pe_tup ha.pa, fun F B H σ ρ Q R q => ?_⟩
  refine ha.ad F B H σ ρ _ R (wpm_mono (wpm_bnd q) (fun os ρ1 q vs B1 H1 R1 sm1 ov => ?_) fun _ _ q => q)
  unfold wpm at q
  cases e : vals os with
  | none =>
    rw [e] at q
    exact q.elim
  | some ds =>
    simp only [e] at q
    by_cases hl : ds.length ≤ 1000000
    · rw [if_pos hl] at q
      have rl := ov.vals e
      refine ⟨by rw [rl.length]; exact mill_le hl, fun p hp => ?_⟩
      obtain ⟨R2, sm2⟩ := R1.newB (o := .tup vs) hp
      exact q _ _ _ R2 (sm1.trans sm2) (.sh (.tup (.inl upd_same) (rl.mono sm2 _ _)))
    · rw [if_neg hl] at q
      exact q.elim
theorem snd_lst (ha : SndA cv X W es ts fs) : SndE cv X W (.List es pos) (tLst ts) (vLst fs) := by
  refine ⟨pe_lst ha.pa, fun F B H σ ρ Q R q => ?_⟩
  refine ha.ad F B H σ ρ _ R (wpm_mono (wpm_bnd q) (fun os ρ1 q vs B1 H1 R1 sm1 ov => ?_) fun _ _ q => q)
  unfold wpm at q
  cases e : vals os with
  | none =>
    rw [e] at q
    exact q.elim
  | some ds =>
    simp only [e] at q
    by_cases hl : ds.length ≤ 1000000
    · rw [if_pos hl] at q
      have rl := ov.vals e
      refine ⟨by rw [rl.length]; exact mill_le hl, fun p hp => ?_⟩
      exact q _ _ _ (R1.new hp) sm1 (RV.newL R1 hp rl)
    · rw [if_neg hl] at q
      exact q.elim
end

/-! ### items -/
def gIx : D → D → Option SV
  | .lst l, .int i => (atI l i).map .sh
  | .tup l, .int i => (atI l i).map .sh
  | .scr l, .int i => (atI l i).map fun n => .sh (.int n)
  | .str s, .int i => if s.length ≤ 1000000 then (atI s.cps.toList i).map fun c => .sh (.str ⟨#[c]⟩) else none
  | _, _ => none
section
variable {K : PySem.W.Frag} {H : Hp}
theorem RepL.atI {xs : List V} {ds : List D} {i : Int} {d : D} (r : RepL K H xs ds) (h : L2.atI ds i = some d) : ∃ v, L2.atI xs i = some v ∧ Rep K H v d := by
  unfold L2.atI at *
  rw [r.length]
  cases e : ixN ds.length i with
  | none =>
    rw [e] at h
    cases h
  | some j =>
    rw [e] at h
    exact r.get h
theorem atI_ints {ns : List Int} {i n : Int} (h : L2.atI ns i = some n) : L2.atI (ns.map V.int) i = some (.int n) := by
  unfold L2.atI at *
  rw [List.length_map]
  cases e : ixN ns.length i with
  | none =>
    rw [e] at h
    cases h
  | some j =>
    rw [e] at h
    have h' : ns[j]? = some n := h
    show (ns.map V.int)[j]? = _
    rw [List.getElem?_map, h']
    rfl
theorem ok_ix : Ok2 K (rIx K) gIx := by
  intro F B H σ ρ x y dx dy sv Q R hx hy hg q
  unfold gIx at hg
  split at hg
  · rename_i l i
    obtain ⟨a, xs, rfl, h1, r1⟩ := hx.lst R.exB
    cases e : atI l i with
    | none =>
      rw [e] at hg
      cases hg
    | some d =>
      rw [e] at hg
      cases hg
      obtain ⟨v, hv, rv⟩ := r1.atI e
      exact .inl ⟨a, xs, i, v, rfl, hy.int, SqL.of h1, hv, q v B H R (Same.refl _) (.sh rv)⟩
  · rename_i l i
    obtain ⟨a, xs, rfl, h1, r1⟩ := hx.tup R.exB
    cases e : atI l i with
    | none =>
      rw [e] at hg
      cases hg
    | some d =>
      rw [e] at hg
      cases hg
      obtain ⟨v, hv, rv⟩ := r1.atI e
      exact .inr (.inl ⟨a, xs, i, v, rfl, hy.int, h1, hv, q v B H R (Same.refl _) (.sh rv)⟩)
  · rename_i l i
    obtain ⟨a, rfl, h1⟩ := hx.scr R.exB
    cases e : atI l i with
    | none =>
      rw [e] at hg
      cases hg
    | some d =>
      rw [e] at hg
      cases hg
      exact .inl ⟨a, _, i, _, rfl, hy.int, h1, atI_ints e, q _ B H R (Same.refl _) (.sh (.int _))⟩
  · rename_i s i
    split at hg
    · rename_i hl
      cases e : atI s.cps.toList i with
      | none =>
        rw [e] at hg
        cases hg
      | some c =>
        rw [e] at hg
        cases hg
        exact .inr (.inr ⟨s, i, c, hx.str, hy.int, mill_le hl, e, q _ B H R (Same.refl _) (.sh (.str _))⟩)
    · cases hg
  · cases hg
end
section
variable {cv : Nat → Value} {X : Cx} {W : WX} {a b e : Expr} {es : List Expr} {ta tb te : TE} {ts : TA} {fa fb : M Op} {fs : M (List Op)} {f : M SV} {pos p p2 : Pos}
theorem snd_ix (ha : SndO cv X W a ta fa) (hb : SndO cv X W b tb fb) (hs : PlainIx b) : SndE cv X W (.Subscript a b pos) (tOp (rIx X.K) ta tb) (vOp2 gIx fa fb) := ⟨pe_ix ix_seq ha.pe hb.pe hs, adm_op2 ok_ix ha hb⟩

/-! ### slices -/
structure SndP (cv : Nat → Value) (X : Cx) (W : WX) (e : Option Expr) (t : TO) (m : M (Option Int)) : Prop where
  po : PO X e t
  ad : Adm cv W X.K t m (fun _ _ _ _ _ o o' => o = o')
def pNo : M (Option Int) := ret none
def pIn (f : M SV) : M (Option Int) := bnd f fun sv ρ => match sv with
  | .sh (.int i) => some (.ok (some i) ρ)
  | _ => none
theorem snp_no : SndP cv X W none tNoPart pNo := ⟨po_none, fun F B H σ ρ Q R q => q none B H R (Same.refl _) rfl⟩
theorem snp_in (h : SndE cv X W e te f) : SndP cv X W (some e) (tPart te) (pIn f) := by
  refine ⟨po_some h.pe, fun F B H σ ρ Q R q => ?_⟩
  refine h.ad F B H σ ρ _ R (wpm_mono (wpm_bnd q) (fun sv ρ1 q v B1 H1 R1 sm1 rv => ?_) fun _ _ q => q)
  unfold wpm at q
  split at q
  · exact q.elim
  · rename_i e1
    split at e1
    · cases e1
      cases rv with
      | sh r =>
        cases r
        exact ⟨_, rfl, q _ B1 H1 R1 sm1 rfl⟩
    · cases e1
  · rename_i e1
    split at e1 <;> cases e1
def cutD {α : Type} (xs : List α) (lo hi : Option Int) : List α := (xs.drop (HT.sIx xs.length 0 lo)).take (HT.sIx xs.length xs.length hi - HT.sIx xs.length 0 lo)
def gSl (x : D) (lo hi : Option Int) : Option SV := match x with
  | .lst l => some (.fr (cutD l lo hi))
  | .tup l => if HT.sIx l.length 0 lo = 0 ∧ HT.sIx l.length l.length hi = l.length then none else some (.sh (.tup (cutD l lo hi)))
  | .str s => if s.length ≤ 1000000 then some (.sh (.str (cutS s lo hi))) else none
  | _ => none
def vSl (a : M Op) (lo hi : M (Option Int)) : M SV := bnd a fun x => bnd lo fun l => bnd hi fun h => lift1 (fun d => gSl d l h) x
def rSl3 (K : PySem.W.Frag) : V → Option Int → Option Int → Hp → VK → Prop := fun x lo hi H Q => rSlL K x lo hi H Q ∨ (rSlT K x lo hi H Q ∨ rSlS x lo hi H Q)
theorem sl3 : SlR X (rSl3 X.K) := SlR.or sl_list (SlR.or sl_tup sl_str)
theorem RepL.cut {K : PySem.W.Frag} {H : Hp} {xs : List V} {ds : List D} (r : RepL K H xs ds) (lo hi : Option Int) : RepL K H (cutV xs lo hi) (cutD ds lo hi) := by
  unfold cutV cutD
  rw [r.length]
  exact (r.drop _).take _
theorem snd_sl {lo hi : Option Expr} {tl th : TO} {ml mh : M (Option Int)} (ha : SndO cv X W a ta fa) (hl : SndP cv X W lo tl ml) (hh : SndP cv X W hi th mh) :
    SndE cv X W (.Subscript a (.Slice lo hi none p2) pos) (tSl (rSl3 X.K) ta tl th) (vSl fa ml mh) := by
  refine ⟨pe_slice sl3 ha.pe hl.po hh.po, fun F B H σ ρ Q R q => ?_⟩
  refine ha.ad F B H σ ρ _ R (wpm_mono (wpm_bnd q) (fun x ρ1 q v B1 H1 R1 sm1 ov => ?_) fun _ _ q => q)
  refine hl.ad F B1 H1 σ ρ1 _ R1 (wpm_mono (wpm_bnd q) (fun l ρ2 q l' B2 H2 R2 sm2 e1 => ?_) fun c ρ2 q B2 H2 R2 sm2 => q B2 H2 R2 (sm1.trans sm2))
  refine hh.ad F B2 H2 σ ρ2 _ R2 (wpm_mono (wpm_bnd q) (fun h ρ3 q h' B3 H3 R3 sm3 e2 => ?_) fun c ρ2 q B2 H2 R2 sm3 => q B2 H2 R2 ((sm1.trans sm2).trans sm3))
  subst e1
  subst e2
  have sm := (sm1.trans sm2).trans sm3
  obtain ⟨d, sv, e3, e4, q⟩ := wpm_lift1 q
  have hx := (ov.mono (sm2.trans sm3)).rep R3 e3
  unfold gSl at e4
  cases d with
  | lst l =>
    cases e4
    obtain ⟨a, xs, rfl, h1, r1⟩ := hx.lst R3.exB
    exact .inl ⟨a, xs, rfl, SqL.of h1, fun p hp => q _ _ _ (R3.new hp) sm (RV.newL R3 hp (r1.cut _ _))⟩
  | tup l =>
    obtain ⟨a, xs, rfl, h1, r1⟩ := hx.tup R3.exB
    by_cases hc : HT.sIx l.length 0 l' = 0 ∧ HT.sIx l.length l.length h' = l.length
    · simp only [if_pos hc] at e4
      cases e4
    · simp only [if_neg hc] at e4
      cases e4
      refine .inr (.inl ⟨a, xs, rfl, h1, by rw [r1.length]; exact hc, fun p hp => ?_⟩)
      obtain ⟨R4, sm4⟩ := R3.newB (o := .tup (cutV xs l' h')) hp
      exact q _ _ _ R4 (sm.trans sm4) (.sh (.tup (.inl upd_same) ((r1.cut _ _).mono sm4 _ _)))
  | str s =>
    by_cases hc : s.length ≤ 1000000
    · simp only [if_pos hc] at e4
      cases e4
      exact .inr (.inr ⟨s, hx.str, mill_le hc, q _ _ _ R3 sm (.sh (.str _))⟩)
    · simp only [if_neg hc] at e4
      cases e4
  | non => cases e4
  | bl _ => cases e4
  | int _ => cases e4
  | scr _ => cases e4
  | dct _ _ => cases e4
  | dck _ _ => cases e4
  | ob _ _ _ => cases e4
  | adr _ => cases e4
  | fn _ _ _ => cases e4
  | lv _ => cases e4

/-! ### built-ins -/
theorem snd_bi {id : String} {x : Str} {r : List V → Hp → VK → Prop} {g : List D → Option SV} (hc : CallR X (.builtin id) r) (ok : OkA X.K r g) (hg : Gl X x) (hm : X.mg x = none) (hv : bootBuiltins x = some (.builtin id)) (ha : SndA cv X W (e :: es) ts fs)
    (hn : x ≠ "__name__" := by decide) (hdb : (x == ("__debug__" : Str)) = false := by decide) (he : starEach (e :: es) X.env = (false, eval e X.env) :: starEach es X.env := by rfl) (hpl : (backTo pos (starEach es X.env)).any (·.1) = false := by rfl) :
    SndE cv X W (.Call (.Name x p) (e :: es) [] pos) (tCB r ts) (vBi g fs) := ⟨pe_callB hc hg hm hv ha.pa hn hdb he hpl, adm_bi ok ha⟩
theorem snd_bt {T : String} {x : Str} {r : List V → Hp → VK → Prop} {g : List D → Option SV} (hc : CallR X (.type T) r) (ok : OkA X.K r g) (hg : Gl X x) (hm : X.mg x = none) (hv : bootBuiltins x = some (.type T)) (ha : SndA cv X W (e :: es) ts fs)
    (hn : x ≠ "__name__" := by decide) (hdb : (x == ("__debug__" : Str)) = false := by decide) (he : starEach (e :: es) X.env = (false, eval e X.env) :: starEach es X.env := by rfl) (hpl : (backTo pos (starEach es X.env)).any (·.1) = false := by rfl) :
    SndE cv X W (.Call (.Name x p) (e :: es) [] pos) (tCB r ts) (vBi g fs) := ⟨pe_callTy hc hg hm hv ha.pa hn hdb he hpl, adm_bi ok ha⟩
end
def intL : List D → Option (List Int)
  | [] => some []
  | .int i :: r => (intL r).map (i :: ·)
  | _ => none
def blL : List D → Option (List Bool)
  | [] => some []
  | .bl i :: r => (blL r).map (i :: ·)
  | _ => none
theorem blL_map : ∀ {ds : List D} {ns : List Bool}, blL ds = some ns → ds = ns.map D.bl
  | [], _, h => by
    cases h
    rfl
  | d :: r, ns, h => by
    unfold blL at h
    split at h
    · contradiction
    · rename_i e
      cases e
      cases q : blL r with
      | none =>
        rw [q] at h
        cases h
      | some ms =>
        rw [q] at h
        cases h
        rw [blL_map q]
        rfl
    · cases h
def gLen : List D → Option SV
  | [.lst l] => some (.sh (.int l.length))
  | [.tup l] => some (.sh (.int l.length))
  | [.scr l] => some (.sh (.int l.length))
  | [.str s] => if s.length ≤ 1000000 then some (.sh (.int s.length)) else none
  | _ => none
def gAbs : List D → Option SV
  | [.int i] => some (.sh (.int (if i < 0 then -i else i)))
  | _ => none
def gMax : List D → Option SV
  | [.int i, .int j] => some (.sh (.int (if j > i then j else i)))
  | _ => none
def gMin : List D → Option SV
  | [.int i, .int j] => some (.sh (.int (if j < i then j else i)))
  | _ => none
def gInt : List D → Option SV
  | [.int i] => some (.sh (.int i))
  | [.bl k] => some (.sh (.int (if k then 1 else 0)))
  | _ => none
def gStr : List D → Option SV
  | [.int i] => if i.natAbs.log2 < 1920 then some (.sh (.str (toString i))) else none
  | _ => none
section
variable {K : PySem.W.Frag}
theorem OpReps.one {B H : Hp} {xs : List V} {d : D} (h : OpReps K B H xs [d]) : ∃ v, xs = [v] ∧ OpRep K B H v d := by
  cases h with
  | cons h t =>
    cases t
    exact ⟨_, rfl, h⟩
theorem OpReps.two {B H : Hp} {xs : List V} {d e : D} (h : OpReps K B H xs [d, e]) : ∃ v w, xs = [v, w] ∧ OpRep K B H v d ∧ OpRep K B H w e := by
  cases h with
  | cons h t =>
    obtain ⟨w, rfl, r⟩ := t.one
    exact ⟨_, w, rfl, h, r⟩
theorem ok_len : OkA K (fun xs H Q => ∃ x n, xs = [x] ∧ LenV K x H n ∧ Q (.int n) H) gLen := by
  intro F B H σ ρ xs ds sv Q R hx hg q
  unfold gLen at hg
  split at hg
  · cases hg
    obtain ⟨v, rfl, r⟩ := hx.one
    obtain ⟨a, ys, rfl, h1, r1⟩ := r.lst R.exB
    exact ⟨_, _, rfl, .inl ⟨ys, SqL.of h1, r1.length.symm⟩, q _ B H R (Same.refl _) (.sh (.int _))⟩
  · cases hg
    obtain ⟨v, rfl, r⟩ := hx.one
    obtain ⟨a, ys, rfl, h1, r1⟩ := r.tup R.exB
    exact ⟨_, _, rfl, .inr ⟨ys, h1, r1.length.symm⟩, q _ B H R (Same.refl _) (.sh (.int _))⟩
  · cases hg
    obtain ⟨v, rfl, r⟩ := hx.one
    obtain ⟨a, rfl, h1⟩ := r.scr R.exB
    exact ⟨_, _, rfl, .inl ⟨_, h1, by rw [List.length_map]⟩, q _ B H R (Same.refl _) (.sh (.int _))⟩
  · split at hg
    · rename_i hl
      cases hg
      obtain ⟨v, rfl, r⟩ := hx.one
      cases r.str
      exact ⟨_, _, rfl, ⟨mill_le hl, rfl⟩, q _ B H R (Same.refl _) (.sh (.int _))⟩
    · cases hg
  · cases hg
theorem ok_abs : OkA K (fun xs H Q => ∃ i, xs = [.int i] ∧ Q (.int (if i < 0 then -i else i)) H) gAbs := by
  intro F B H σ ρ xs ds sv Q R hx hg q
  unfold gAbs at hg
  split at hg
  · cases hg
    obtain ⟨v, rfl, r⟩ := hx.one
    cases r.int
    exact ⟨_, rfl, q _ B H R (Same.refl _) (.sh (.int _))⟩
  · cases hg
theorem ok_max : OkA K (fun xs H Q => ∃ i j, xs = [.int i, .int j] ∧ Q (.int (if j > i then j else i)) H) gMax := by
  intro F B H σ ρ xs ds sv Q R hx hg q
  unfold gMax at hg
  split at hg
  · cases hg
    obtain ⟨v, w, rfl, r, r'⟩ := hx.two
    cases r.int
    cases r'.int
    exact ⟨_, _, rfl, q _ B H R (Same.refl _) (.sh (.int _))⟩
  · cases hg
theorem ok_min : OkA K (fun xs H Q => ∃ i j, xs = [.int i, .int j] ∧ Q (.int (if j < i then j else i)) H) gMin := by
  intro F B H σ ρ xs ds sv Q R hx hg q
  unfold gMin at hg
  split at hg
  · cases hg
    obtain ⟨v, w, rfl, r, r'⟩ := hx.two
    cases r.int
    cases r'.int
    exact ⟨_, _, rfl, q _ B H R (Same.refl _) (.sh (.int _))⟩
  · cases hg
theorem ok_str : OkA K (fun xs H Q => ∃ i, xs = [.int i] ∧ i.natAbs.log2 < 1920 ∧ Q (.str (toString i)) H) gStr := by
  intro F B H σ ρ xs ds sv Q R hx hg q
  unfold gStr at hg
  split at hg
  · split at hg
    · rename_i hl
      cases hg
      obtain ⟨v, rfl, r⟩ := hx.one
      cases r.int
      exact ⟨_, rfl, hl, q _ B H R (Same.refl _) (.sh (.str _))⟩
    · cases hg
  · cases hg
end

/-! ### isinstance of built-in classes -/
def tyN : D → String
  | .non => "NoneType"
  | .bl _ => "bool"
  | .int _ => "int"
  | .str _ => "str"
  | .tup _ => "tuple"
  | .lst _ => "list"
  | .scr _ => "list"
  | .dct _ _ => "NoneType"
  | .dck _ _ => "NoneType"
  | .ob _ _ _ => "NoneType"
  | .adr _ => "NoneType"
  | .fn _ _ _ => "NoneType"
  | .lv _ => "NoneType"
def exo : D → Bool
  | .dct _ _ => true
  | .dck _ _ => true
  | .ob _ _ _ => true
  | .adr _ => true
  | .fn _ _ _ => true
  | .lv _ => true
  | _ => false
theorem OpRep.ty {K : PySem.W.Frag} {B H : Hp} {v : V} {d : D} (e : Same B H) (hx : exo d = false) (h : OpRep K B H v d) : TyX K H v (.type (tyN d)) := by
  have r := h.rep e
  cases r with
  | non => exact .base .non
  | bl b => exact .base (.bl b)
  | int i => exact .base (.int i)
  | str s => exact .base (.str s)
  | tup g _ =>
    rcases g with g | ⟨_, o, its, n, g, hc, _⟩
    · exact .base (.tup g)
    · exact .kTuple g hc
  | lst g _ => exact .base (.lst g)
  | scr g =>
    rcases g with (g | ⟨o, g⟩) | ⟨o, its, n, g, hc, _⟩
    · exact .base (.lst g)
    · exact .base (.frz g)
    · exact .kList g hc
  | dct _ _ _ => cases hx
  | dck _ _ _ => cases hx
  | ob _ _ _ _ => cases hx
  | adr _ => cases hx
  | fn _ => cases hx
  | lv _ => cases hx
def isInt : D → Bool
  | .int _ => true
  | .bl _ => true
  | _ => false
def isBl : D → Bool
  | .bl _ => true
  | _ => false
def isTup : D → Bool
  | .tup _ => true
  | _ => false
def isLst : D → Bool
  | .lst _ => true
  | .scr _ => true
  | _ => false
def isStr : D → Bool
  | .str _ => true
  | _ => false
theorem kb_str_NoneType : kitB "NoneType" "str" = some false := by decide +kernel
theorem kb_str_bool : kitB "bool" "str" = some false := by decide +kernel
theorem kb_str_int : kitB "int" "str" = some false := by decide +kernel
theorem kb_str_str : kitB "str" "str" = some true := by decide +kernel
theorem kb_str_tuple : kitB "tuple" "str" = some false := by decide +kernel
theorem kb_str_list : kitB "list" "str" = some false := by decide +kernel
theorem kit_str (d : D) : kitB (tyN d) "str" = some (isStr d) := match d with
  | .non => kb_str_NoneType
  | .bl _ => kb_str_bool
  | .int _ => kb_str_int
  | .str _ => kb_str_str
  | .tup _ => kb_str_tuple
  | .lst _ => kb_str_list
  | .scr _ => kb_str_list
  | .dct _ _ => kb_str_NoneType
  | .dck _ _ => kb_str_NoneType
  | .ob _ _ _ => kb_str_NoneType
  | .adr _ => kb_str_NoneType
  | .fn _ _ _ => kb_str_NoneType
  | .lv _ => kb_str_NoneType
def gIs (p : D → Bool) (d : D) : Option SV := if exo d = true then none else some (.sh (.bl (p d)))
def vIs (p : D → Bool) (a : M Op) : M SV := vOp1 (gIs p) a
section
variable {cv : Nat → Value} {X : Cx} {W : WX} {a : Expr} {ta : TE} {fa : M Op} {pos pp pt : Pos}
theorem snd_is {T : String} {x : Str} {p : D → Bool} (kt : ∀ d, kitB (tyN d) T = some (p d)) (hgi : Gl X "isinstance") (hmi : X.mg "isinstance" = none) (hg : Gl X x) (hm : X.mg x = none) (hv : bootBuiltins x = some (.type T)) (ha : SndO cv X W a ta fa)
    (hn : x ≠ "__name__" := by decide) (hd : (x == ("__debug__" : Str)) = false := by decide)
    (he : starEach [a, .Name x pt] X.env = (false, eval a X.env) :: starEach [.Name x pt] X.env := by rfl) (he1 : starEach [.Name x pt] X.env = (false, eval (.Name x pt) X.env) :: starEach [] X.env := by rfl)
    (hpl : (backTo pos (starEach [.Name x pt] X.env)).any (·.1) = false := by rfl) :
    SndE cv X W (.Call (.Name "isinstance" pp) [a, .Name x pt] [] pos) (tCB (rIsi X.K) (tCons ta (tCons (tC (.ty T)) tNil))) (vIs p fa) := by
  refine ⟨pe_callB call_isi hgi hmi boot_isinstance (pa_cons ha.pe (pa_cons (pe_bltn hg hm hv rfl hn hd) pa_nil he1) he) (by decide) (by decide) he hpl, fun F B H σ ρ Q R q => ?_⟩
  refine ha.ad F B H σ ρ _ R (wpm_mono (wpm_bnd q) (fun o ρ1 q v B1 H1 R1 sm1 ov => ?_) fun _ _ q => q)
  unfold wpm lift1 at q
  cases e1 : get ρ1 o with
  | none =>
    rw [e1] at q
    exact q.elim
  | some d =>
    rw [e1] at q
    by_cases hx : exo d = true
    · have e2 : gIs p d = none := if_pos hx
      simp only [e1, e2] at q
      exact q.elim
    · have e2 : gIs p d = some (.sh (.bl (p d))) := if_neg hx
      simp only [e1, e2] at q
      exact ⟨v, .ty T, _, _, p d, rfl, .ty T, (ov.rep R1 e1).ty R1.exB (by simpa using hx), kit_ty (kt d), q _ B1 H1 R1 sm1 (.sh (.bl _))⟩
end
end Sim

namespace Sim
open PySem PySem.Spec PyProof.Rows L2

/-! ### calls of the text's own defs -/
inductive CR where
  | ret (r : SV) (out : List D)
  | exc (c : Nat) (out : List D)
structure CallIn (K : PySem.W.Frag) (F B H : Hp) (io : Option Nat) (vs : List V) (ds : List D) (oa : Option Addr) : Prop where
  len : vs.length = ds.length
  sh : ∀ i v d, vs[i]? = some v → ds[i]? = some d → io ≠ some i → Rep K B v d
  inn : ∀ i, io = some i → ∃ a xs l, vs[i]? = some (.ref a) ∧ ds[i]? = some (.lst l) ∧ oa = some a ∧ F a = none ∧ B a = none ∧ H a = some (.lst xs) ∧ RepL K B xs l
  no : io = none → oa = none
def CallOut (K : PySem.W.Frag) (B H : Hp) (oa : Option Addr) (out : List D) : Prop := ∀ a, oa = some a → B a = none ∧ ∃ xs, H a = some (.lst xs) ∧ RepL K B xs out
inductive CallRet (K : PySem.W.Frag) (F B H : Hp) (oa : Option Addr) : V → SV → Prop
  | sh {v : V} {d : D} (r : Rep K B v d) : CallRet K F B H oa v (.sh d)
  | fr {a : Addr} {o : HO} {xs : List V} {c : OC} (hF : F a = none) (hB : B a = none) (hH : H a = some o) (hO : c.At K o xs) (r : RepL K B xs c.ds) (no : oa ≠ some a) : CallRet K F B H oa (.ref a) (.ow c)
def SpOut (cv : Nat → Value) (K : PySem.W.Frag) (F B H : Hp) (oa : Option Addr) (Q : VK) (E : XK) : CR → Prop
  | .ret r out => ∀ v B' H', Same B B' → Same B' H' → Same F H' → DisT F B' H' → CallOut K B' H' oa out → CallRet K F B' H' oa v r → Q v H'
  | .exc c out => ∀ B' H', Same B B' → Same B' H' → Same F H' → DisT F B' H' → CallOut K B' H' oa out → E (cv c) none H'
/-- the promise: what Φ tells of the arguments' data -/
def spI (cv : Nat → Value) (K : PySem.W.Frag) (n : Nat) (io : Option Nat) (Φ : List D → Option CR) : Sp := fun vs H Q E => vs.length = n ∧
  ∃ (ds : List D) (res : CR) (F B : Hp) (oa : Option Addr), Φ ds = some res ∧ Same B H ∧ Same F H ∧ DisT F B H ∧ CallIn K F B H io vs ds oa ∧ SpOut cv K F B H oa Q E res

def decO : Option Nat → Option Nat
  | some (k + 1) => some k
  | _ => none
def brs : Option Nat → List Op → List Nat
  | _, [] => []
  | io, .val _ :: os => brs (decO io) os
  | some 0, .slot _ :: os => brs none os
  | some (k + 1), .slot i :: os => i :: brs (some k) os
  | none, .slot i :: os => i :: brs none os
def ioSlot : Option Nat → List Op → Option Nat
  | some 0, .slot i :: _ => some i
  | some (k + 1), _ :: os => ioSlot (some k) os
  | _, _ => none
def isFr (ρ : Sl) (i : Nat) : Bool := match ρ[i]? with
  | some (some (.ow (.lst _))) => true
  | _ => false
def isOw (ρ : Sl) (i : Nat) : Bool := match ρ[i]? with
  | some (some (.ow _)) => true
  | _ => false
def resT : CR → Bool
  | .ret (.sh d) out => isT d && isTL out
  | .ret (.ow c) out => isTL c.ds && isTL out
  | .exc _ out => isTL out
def resL : CR → Bool
  | .ret (.sh d) out => isL d && isLL out
  | .ret (.ow c) out => isLL c.ds && isLL out
  | .exc _ out => isLL out
def ioOk (io : Option Nat) (os : List Op) (ρ : Sl) : Bool := match io with
  | none => true
  | some _ => match ioSlot io os with
    | some i => isFr ρ i && !(brs io os).contains i
    | none => false
def noBr (io : Option Nat) (os : List Op) (ρ : Sl) : Bool := (brs io os).all fun j => !isOw ρ j
def noBrL (io : Option Nat) (os : List Op) (ρ : Sl) : Bool := (brs io os).all fun j => !isFr ρ j
def resOk (io : Option Nat) (os : List Op) (ρ : Sl) (res : CR) : Bool := resT res || (noBrL io os ρ && resL res)
def putO (io : Option Nat) (os : List Op) (out : List D) (ρ : Sl) : Sl := match ioSlot io os with
  | some i => ρ.set i (some (.fr out))
  | none => ρ
def outOf (io : Option Nat) (os : List Op) (ρ : Sl) : CR → Out SV
  | .ret r out => .ok r (putO io os out ρ)
  | .exc c out => .ex c (putO io os out ρ)
def callM (io : Option Nat) (Φ : List D → Option CR) (os : List Op) : M SV := fun ρ => match gets ρ os with
  | none => none
  | some ds => match Φ ds with
    | none => none
    | some res => if (ioOk io os ρ && (noBr io os ρ || resOk io os ρ res)) = true then some (outOf io os ρ res) else none

theorem isFr_owns {K : PySem.W.Frag} {F B H : Hp} {σ : L2.St} {ρ : Sl} (R : Rel K F B H σ ρ) {i : Nat} (h : isFr ρ i = true) : ∃ a, Owns σ ρ i a := by
  unfold isFr at h
  split at h
  · rename_i l e
    obtain ⟨a, hs, _⟩ := R.move e
    exact ⟨a, ⟨_, e⟩, hs⟩
  · cases h
theorem owns_isOw {σ : L2.St} {ρ : Sl} {i : Nat} {a : Addr} (h : Owns σ ρ i a) : isOw ρ i = true := by
  obtain ⟨⟨ds, e⟩, _⟩ := h
  unfold isOw
  rw [e]
theorem OC.not_tup {K : PySem.W.Frag} {ys xs : List V} : ∀ {c : OC}, c.At K (.tup ys) xs → False
  | .lst _, h => by
    have h : HO.tup ys = .lst xs := h
    cases h
  | .dk _ _, h => by
    obtain ⟨h, _⟩ := h
    cases h
  | .dt _ _, h => by
    obtain ⟨h, _⟩ := h
    cases h
  | .ob _ _ _, h => by
    obtain ⟨_, _, _, h, _⟩ := h
    cases h
theorem OC.is_lst {K : PySem.W.Frag} {ys xs : List V} : ∀ {c : OC}, c.At K (.lst ys) xs → ∃ l, c = .lst l
  | .lst l, _ => ⟨l, rfl⟩
  | .dk _ _, h => by
    obtain ⟨h, _⟩ := h
    cases h
  | .dt _ _, h => by
    obtain ⟨h, _⟩ := h
    cases h
  | .ob _ _ _, h => by
    obtain ⟨_, _, _, h, _⟩ := h
    cases h
theorem gets_at {ρ : Sl} : ∀ {os : List Op} {ds : List D} {i : Nat} {d : D}, gets ρ os = some ds → ds[i]? = some d → ∃ o, os[i]? = some o ∧ get ρ o = some d
  | [], ds, i, d, h, e => by
    cases h
    simp at e
  | o :: os, ds, i, d, h, e => by
    unfold gets at h
    cases e1 : get ρ o with
    | none =>
      rw [e1] at h
      cases h
    | some x =>
      cases e2 : gets ρ os with
      | none =>
        rw [e1, e2] at h
        cases h
      | some xs =>
        rw [e1, e2] at h
        cases h
        cases i with
        | zero =>
          cases e
          exact ⟨o, rfl, e1⟩
        | succ i => exact gets_at (os := os) e2 e
theorem gets_len {ρ : Sl} : ∀ {os : List Op} {ds : List D}, gets ρ os = some ds → ds.length = os.length
  | [], ds, h => by
    cases h
    rfl
  | o :: os, ds, h => by
    unfold gets at h
    cases e1 : get ρ o with
    | none =>
      rw [e1] at h
      cases h
    | some x =>
      cases e2 : gets ρ os with
      | none =>
        rw [e1, e2] at h
        cases h
      | some xs =>
        rw [e1, e2] at h
        cases h
        rw [List.length_cons, List.length_cons, gets_len e2]
theorem OpVs.length {K : PySem.W.Frag} {B : Hp} {σ : L2.St} : ∀ {vs : List V} {os : List Op}, OpVs K B σ vs os → vs.length = os.length
  | _, _, .nil => rfl
  | _, _, .cons _ t => by rw [List.length_cons, List.length_cons, OpVs.length t]
theorem OpVs.at {K : PySem.W.Frag} {B : Hp} {σ : L2.St} : ∀ {vs : List V} {os : List Op} {i : Nat} {o : Op}, OpVs K B σ vs os → os[i]? = some o → ∃ v, vs[i]? = some v ∧ OpV K B σ v o
  | _, _, _, _, .nil, h => by simp at h
  | _, _, 0, _, .cons r _, h => by simp at h; subst h; exact ⟨_, rfl, r⟩
  | _, _, i + 1, d, .cons _ t, h => by
    obtain ⟨v, h1, h2⟩ := OpVs.at (i := i) t (by simpa using h)
    exact ⟨v, by simpa using h1, h2⟩
theorem brs_mem : ∀ {io : Option Nat} {os : List Op} {k i : Nat}, os[k]? = some (.slot i) → io ≠ some k → i ∈ brs io os
  | _, [], _, _, h, _ => by simp at h
  | io, .val d :: os, 0, i, h, _ => by simp at h
  | io, .val d :: os, k + 1, i, h, n => by
    unfold brs
    refine brs_mem (k := k) (by simpa using h) fun e => n ?_
    cases io with
    | none => cases e
    | some j =>
      cases j with
      | zero => cases e
      | succ j =>
        cases e
        rfl
  | some 0, .slot j :: os, 0, i, h, n => (n rfl).elim
  | some 0, .slot j :: os, k + 1, i, h, n => by
    unfold brs
    exact brs_mem (k := k) (by simpa using h) (by simp)
  | some (m + 1), .slot j :: os, 0, i, h, n => by
    unfold brs
    simp at h
    subst h
    exact List.mem_cons_self
  | some (m + 1), .slot j :: os, k + 1, i, h, n => by
    unfold brs
    exact List.mem_cons_of_mem _ (brs_mem (k := k) (by simpa using h) fun e => n (by cases e; rfl))
  | none, .slot j :: os, 0, i, h, n => by
    unfold brs
    simp at h
    subst h
    exact List.mem_cons_self
  | none, .slot j :: os, k + 1, i, h, n => by
    unfold brs
    exact List.mem_cons_of_mem _ (brs_mem (k := k) (by simpa using h) (by simp))
theorem ioSlot_at : ∀ {io : Option Nat} {os : List Op} {i k : Nat}, ioSlot io os = some i → io = some k → os[k]? = some (.slot i)
  | _, .val _ :: _, i, 0, h, e => by
    subst e
    unfold ioSlot at h
    cases h
  | _, .slot j :: _, i, 0, h, e => by
    subst e
    unfold ioSlot at h
    cases h
    rfl
  | _, o :: os, i, k + 1, h, e => by
    subst e
    unfold ioSlot at h
    exact ioSlot_at (k := k) h rfl
  | _, [], i, 0, h, e => by
    subst e
    unfold ioSlot at h
    cases h
  | _, [], i, k + 1, h, e => by
    subst e
    unfold ioSlot at h
    cases h
open Classical in
theorem adm_callM {cv : Nat → Value} {K : PySem.W.Frag} {n : Nat} {io : Option Nat} {Φ : List D → Option CR} {F B H : Hp} {σ : L2.St} {ρ : Sl} {vs : List V} {os : List Op} {Q : VK} {E : XK} (R : Rel K F B H σ ρ) (ov : OpVs K B σ vs os) (hn : os.length = n)
    (q : wpm (callM io Φ os) ρ (fun a ρ' => ∀ v B' H', Rel K F B' H' σ ρ' → Same B B' → RV K F B' H' σ ρ' v a → Q v H') (fun c ρ' => ∀ B' H', Rel K F B' H' σ ρ' → Same B B' → E (cv c) none H')) : spI cv K n io Φ vs H Q E := by
  unfold wpm callM at q
  cases e1 : gets ρ os with
  | none =>
    rw [e1] at q
    exact q.elim
  | some ds =>
    simp only [e1] at q
    cases e2 : Φ ds with
    | none =>
      simp only [e2] at q
    | some res =>
      simp only [e2] at q
      by_cases hc : (ioOk io os ρ && (noBr io os ρ || resOk io os ρ res)) = true
      · rw [if_pos hc] at q
        rw [Bool.and_eq_true] at hc
        obtain ⟨hio, hbr⟩ := hc
        obtain ⟨BJ, hBJ⟩ : ∃ BJ : Addr → Prop, BJ = fun a => ∃ j, j ∈ brs io os ∧ Owns σ ρ j a := ⟨_, rfl⟩
        obtain ⟨OJ, hOJ⟩ : ∃ OJ : Addr → Prop, OJ = fun a => ∃ j, j ∉ brs io os ∧ ioSlot io os ≠ some j ∧ Owns σ ρ j a := ⟨_, rfl⟩
        obtain ⟨B1, hB1⟩ : ∃ B1 : Hp, B1 = fun a => if BJ a then H a else B a := ⟨_, rfl⟩
        obtain ⟨F1, hF1⟩ : ∃ F1 : Hp, F1 = fun a => if OJ a then H a else F a := ⟨_, rfl⟩
        have B1y : ∀ {a}, BJ a → B1 a = H a := fun {a} h => by rw [hB1]; exact if_pos h
        have B1n : ∀ {a}, ¬ BJ a → B1 a = B a := fun {a} h => by rw [hB1]; exact if_neg h
        have F1y : ∀ {a}, OJ a → F1 a = H a := fun {a} h => by rw [hF1]; exact if_pos h
        have F1n : ∀ {a}, ¬ OJ a → F1 a = F a := fun {a} h => by rw [hF1]; exact if_neg h
        have bj : ∀ {a}, BJ a → ∃ j ho c, j ∈ brs io os ∧ Owns σ ρ j a ∧ F a = none ∧ B a = none ∧ H a = some ho ∧ (∃ xs, c.At K ho xs) ∧ ρ[j]? = some (some (.ow c)) := fun {a} h => by
          rw [hBJ] at h
          obtain ⟨j, hj, o⟩ := h
          obtain ⟨ho, xs, l, h1, h2, h3, h4, h5, h6⟩ := o.at R
          exact ⟨j, ho, l, hj, o, h2, h3, h4, ⟨xs, h5⟩, h1⟩
        have oj : ∀ {a}, OJ a → ∃ j ho, j ∉ brs io os ∧ ioSlot io os ≠ some j ∧ Owns σ ρ j a ∧ F a = none ∧ B a = none ∧ H a = some ho := fun {a} h => by
          rw [hOJ] at h
          obtain ⟨j, hj, hi, o⟩ := h
          obtain ⟨ho, xs, l, h1, h2, h3, h4, h5⟩ := o.at R
          exact ⟨j, ho, hj, hi, o, h2, h3, h4⟩
        have sB : Same B B1 := fun a o e => by
          rw [B1n fun z => ?_]
          · exact e
          · obtain ⟨_, _, _, _, _, _, z2, _⟩ := bj z
            rw [e] at z2
            cases z2
        have sBH : Same B1 H := fun a o e => by
          by_cases z : BJ a
          · rw [B1y z] at e
            exact e
          · rw [B1n z] at e
            exact R.exB _ _ e
        have sFH : Same F1 H := fun a o e => by
          by_cases z : OJ a
          · rw [F1y z] at e
            exact e
          · rw [F1n z] at e
            exact R.exF _ _ e
        have sF : Same F F1 := fun a o e => by
          rw [F1n fun z => ?_]
          · exact e
          · obtain ⟨_, _, _, _, _, z1, _⟩ := oj z
            rw [e] at z1
            cases z1
        have dis1 : ∀ a o, F1 a = some o → B1 a = none := fun a o e => by
          by_cases z : OJ a
          · obtain ⟨j, xs, n1, n2, o1, z1, z2, z3⟩ := oj z
            rw [B1n fun y => ?_]
            · exact z2
            · obtain ⟨j', _, _, m, o2, _⟩ := bj y
              have := R.sep _ _ _ o1 o2
              subst this
              exact n1 m
          · rw [F1n z] at e
            rw [B1n fun y => ?_]
            · exact R.dis _ _ e
            · obtain ⟨_, _, _, _, _, z1, _⟩ := bj y
              rw [e] at z1
              cases z1
        have plO : ∀ {j a o}, Owns σ ρ j a → H a = some o → PlainO o := fun {j a o} w e => by
          obtain ⟨_, _, _, _, _, _, h4, h5, _⟩ := w.at R
          rw [e] at h4
          cases h4
          exact plain_at h5
        have tb1 : TbOk F1 B1 H := R.tb.both (fun p hp => by
          rw [B1n fun z => ?_]
          · exact R.tb.nB p hp
          · obtain ⟨_, _, _, _, o2, _, _, h4, _⟩ := bj z
            exact R.tb.ne h4 (plO o2 h4).1 hp rfl) fun p hp => by
          rw [F1n fun z => ?_]
          · exact R.tb.nF p hp
          · obtain ⟨_, _, _, _, o2, _, _, h4⟩ := oj z
            exact R.tb.ne h4 (plO o2 h4).1 hp rfl
        -- the slot that is handed in to be changed
        have hS : ∀ k, io = some k → ∃ i a xs l, ioSlot io os = some i ∧ os[k]? = some (.slot i) ∧ Owns σ ρ i a ∧ i ∉ brs io os ∧ σ[i]? = some (some (.ref a)) ∧ ρ[i]? = some (some (.fr l)) ∧ F a = none ∧ B a = none ∧ H a = some (.lst xs) ∧ RepL K B xs l := fun k hk => by
          unfold ioOk at hio
          rw [hk] at hio
          cases e3 : ioSlot (some k) os with
          | none =>
            rw [e3] at hio
            cases hio
          | some i =>
            simp only [e3] at hio
            rw [Bool.and_eq_true] at hio
            obtain ⟨a, o⟩ := isFr_owns R hio.1
            obtain ⟨ho, xs, c, h1, h2, h3, h4, hO, h5⟩ := o.at R
            have hf := hio.1
            unfold isFr at hf
            rw [h1] at hf
            obtain ⟨l, hcl⟩ : ∃ l, c = .lst l := by
              cases c with
              | lst l => exact ⟨l, rfl⟩
              | dk _ _ => cases hf
              | dt _ _ => cases hf
              | ob _ _ _ => cases hf
            subst hcl
            have hO : ho = .lst xs := hO
            subst hO
            have nb : i ∉ brs io os := fun m => by
              have z := hio.2
              rw [← hk, List.elem_eq_contains.symm] at z
              simp only [Bool.not_eq_true', List.elem_eq_mem, decide_eq_false_iff_not] at z
              exact z m
            exact ⟨i, a, xs, l, hk ▸ e3, ioSlot_at e3 rfl, o, nb, o.2, h1, h2, h3, h4, h5⟩
        have hS0 : io = none → ioSlot io os = none := fun h => by
          rw [h]
          unfold ioSlot
          cases os <;> rfl
        obtain ⟨oa, hoa, hoa0⟩ : ∃ oa : Option Addr, (∀ i a, ioSlot io os = some i → Owns σ ρ i a → oa = some a) ∧ (∀ a, oa = some a → ∃ i, ioSlot io os = some i ∧ Owns σ ρ i a) := by
          cases h : io with
          | none =>
            refine ⟨none, fun i a e => ?_, fun a e => by cases e⟩
            rw [← h, hS0 h] at e
            cases e
          | some k =>
            obtain ⟨i, a, xs, l, h1, _, o, _, h2, _⟩ := hS k h
            refine ⟨some a, fun i' a' e o' => ?_, fun a' e => ?_⟩
            · rw [← h, h1] at e
              cases e
              have := o'.2
              rw [h2] at this
              cases this
              rfl
            · cases e
              exact ⟨i, h ▸ h1, o⟩
        have oaN : ∀ {a}, oa = some a → ¬ BJ a ∧ ¬ OJ a ∧ F a = none ∧ B a = none := fun {a} e => by
          obtain ⟨i, h1, o⟩ := hoa0 a e
          obtain ⟨_, xs, l, h2, h3, h4, h5, h6⟩ := o.at R
          refine ⟨fun z => ?_, fun z => ?_, h3, h4⟩
          · obtain ⟨j, _, _, m, o2, _⟩ := bj z
            have := R.sep _ _ _ o o2
            subst this
            cases h : io with
            | none =>
              rw [hS0 h] at h1
              cases h1
            | some k =>
              obtain ⟨i', _, _, _, g1, _, _, g2, _⟩ := hS k h
              rw [h1] at g1
              cases g1
              exact g2 m
          · obtain ⟨j, _, _, n2, o2, _⟩ := oj z
            have := R.sep _ _ _ o o2
            subst this
            exact n2 h1
        have inn : CallIn K F1 B1 H io vs ds oa := by
          refine ⟨by rw [ov.length, gets_len e1], fun i v d hv hd hne => ?_, fun k hk => ?_, fun h => ?_⟩
          · obtain ⟨o, ho, hg⟩ := gets_at e1 hd
            obtain ⟨v', hv', ovv⟩ := ov.at ho
            rw [hv] at hv'
            cases hv'
            cases ovv with
            | val r =>
              cases hg
              exact r.mono sB _ _
            | @slot i' hs =>
              have hg : slotD ρ i' = some d := hg
              unfold slotD at hg
              split at hg
              · rename_i sv e3
                cases hg
                have s := R.slot i' sv e3
                rw [hs] at s
                cases s with
                | sh r => exact r.mono sB _ _
                | @fr a o xs l hF hB hH hO r =>
                  have z : BJ a := by
                    rw [hBJ]
                    exact ⟨i', brs_mem ho hne, ⟨l, e3⟩, hs⟩
                  exact OC.rep ((B1y z).trans hH) hO (r.mono sB _ _)
              · cases hg
          · obtain ⟨i, a, xs, l, h1, h2, o, nb, h3, h4, h5, h6, h7, h8⟩ := hS k hk
            obtain ⟨v, hv, ovv⟩ := ov.at h2
            have hvv : v = .ref a := by
              cases ovv with
              | slot hs =>
                rw [h3] at hs
                cases hs
                rfl
            subst hvv
            have eo := hoa i a h1 o
            obtain ⟨n1, n2, _, _⟩ := oaN eo
            refine ⟨a, xs, l, hv, ?_, eo, (F1n n2).trans h5, (B1n n1).trans h6, h7, h8.mono sB _ _⟩
            obtain ⟨hlt, _⟩ := List.getElem?_eq_some_iff.mp h2
            have hlt' : k < ds.length := by
              rw [gets_len e1]
              exact hlt
            obtain ⟨o', ho', hg⟩ := gets_at e1 (List.getElem?_eq_getElem hlt')
            rw [h2] at ho'
            cases ho'
            have hg : slotD ρ i = some ds[k] := hg
            unfold slotD at hg
            rw [h4] at hg
            rw [List.getElem?_eq_getElem hlt']
            exact hg.symm
          · cases h9 : oa with
            | none => rfl
            | some a =>
              obtain ⟨i, h1, _⟩ := hoa0 a h9
              rw [hS0 h] at h1
              cases h1
        -- behind the call
        have back : ∀ (out : List D) (B' H' : Hp), Same B1 B' → Same B' H' → Same F1 H' → DisT F1 B' H' → CallOut K B' H' oa out → (noBr io os ρ = true ∨ isTL out = true ∨ (noBrL io os ρ = true ∧ isLL out = true)) →
            ∃ B2, Rel K F B2 H' σ (putO io os out ρ) ∧ Same B B2 ∧ (∀ a, B2 a = if BJ a then none else B' a) := fun out B' H' s1 s2 s3 s4 co hT => by
          obtain ⟨B2, hB2⟩ : ∃ B2 : Hp, B2 = fun a => if BJ a then none else B' a := ⟨_, rfl⟩
          have B2y : ∀ {a}, BJ a → B2 a = none := fun {a} h => by rw [hB2]; exact if_pos h
          have B2n : ∀ {a}, ¬ BJ a → B2 a = B' a := fun {a} h => by rw [hB2]; exact if_neg h
          have sB2 : Same B B2 := fun a o e => by
            have e' := s1 _ _ (sB _ _ e)
            rw [B2n fun z => ?_]
            · exact e'
            · obtain ⟨_, _, _, _, _, _, z2, _⟩ := bj z
              rw [e] at z2
              cases z2
          have s22 : Same B2 H' := fun a o e => by
            by_cases z : BJ a
            · rw [B2y z] at e
              cases e
            · rw [B2n z] at e
              exact s2 _ _ e
          have dis2 : ∀ a o, F a = some o → B2 a = none := fun a o e => by
            have e' := s4.1 _ _ (sF _ _ e)
            by_cases z : BJ a
            · exact B2y z
            · rw [B2n z]
              exact e'
          have core : ∀ (ρ0 : Sl), ρ0.length = ρ.length → (∀ j sv, ρ0[j]? = some (some sv) → ρ[j]? = some (some sv) ∧ ioSlot io os ≠ some j) → Rel K F B2 H' σ ρ0 := fun ρ0 hl hsub => by
            have ow : ∀ {j a}, Owns σ ρ0 j a → Owns σ ρ j a ∧ ioSlot io os ≠ some j := fun {j a} ⟨⟨l, g1⟩, g2⟩ => by
              obtain ⟨g3, g4⟩ := hsub _ _ g1
              exact ⟨⟨⟨l, g3⟩, g2⟩, g4⟩
            refine ⟨s22, sF.trans s3, dis2, hl.trans R.len, fun j sv g => ?_, fun i j a o1 o2 => R.sep i j a (ow o1).1 (ow o2).1, s4.2.both (fun p hp => by
              by_cases z : BJ p.1
              · exact B2y z
              · rw [B2n z]
                exact s4.2.nB p hp) R.tb.nF⟩
            obtain ⟨g1, g2⟩ := hsub _ _ g
            have s := R.slot j sv g1
            generalize hg : σ[j]? = w at s
            cases s with
            | sh r => exact .sh (r.mono sB2 _ _)
            | @fr a ho xs l hF hB hH hO r =>
              have o : Owns σ ρ j a := ⟨⟨l, g1⟩, hg⟩
              by_cases m : j ∈ brs io os
              · have z : BJ a := by
                  rw [hBJ]
                  exact ⟨j, m, o⟩
                exact .fr hF (B2y z) (s2 _ _ (s1 _ _ ((B1y z).trans hH))) hO (r.mono sB2 _ _)
              · have z : OJ a := by
                  rw [hOJ]
                  exact ⟨j, m, g2, o⟩
                have nz : ¬ BJ a := fun y => by
                  obtain ⟨j', _, _, m', o2, _⟩ := bj y
                  have := R.sep _ _ _ o o2
                  subst this
                  exact m m'
                have e3 : F1 a = some ho := (F1y z).trans hH
                exact .fr hF ((B2n nz).trans (s4.1 _ _ e3)) (s3 _ _ e3) hO (r.mono sB2 _ _)
          refine ⟨B2, ?_, sB2, fun a => by rw [hB2]⟩
          unfold putO
          cases h1 : ioSlot io os with
          | none => exact core ρ rfl fun j sv g => ⟨g, by rw [h1]; exact fun z => nomatch z⟩
          | some i =>
            obtain ⟨k, hk⟩ : ∃ k, io = some k := by
              cases h : io with
              | none =>
                rw [hS0 h] at h1
                cases h1
              | some k => exact ⟨k, rfl⟩
            obtain ⟨i', a, xs, l, g1, g2, o, nb, g3, g4, g5, g6, g7, g8⟩ := hS k hk
            rw [h1] at g1
            cases g1
            have eo := hoa i a h1 o
            obtain ⟨n1, n2, _, _⟩ := oaN eo
            obtain ⟨c1, xs', c2, c3⟩ := co a eo
            have Rd := core (ρ.set i none) (by rw [List.length_set]) fun j sv g => by
              by_cases e : i = j
              · subst e
                obtain ⟨hl, _⟩ := List.getElem?_eq_some_iff.mp g
                rw [List.length_set] at hl
                rw [List.getElem?_set_self hl] at g
                cases g
              · rw [List.getElem?_set_ne e] at g
                exact ⟨g, fun z => e (by rw [h1] at z; cases z; rfl)⟩
            have rep2 : RepL K B2 xs' out := by
              have tups : ∀ b ys, B' b = some (.tup ys) → B2 b = some (.tup ys) := fun b ys e => by
                rw [B2n fun z => ?_]
                · exact e
                · obtain ⟨j, ho, c, _, _, _, _, z3, ⟨_, z4⟩, _⟩ := bj z
                  have e' := s1 _ _ ((B1y z).trans z3)
                  rw [e] at e'
                  cases e'
                  exact OC.not_tup z4
              rcases hT with hT | hT | ⟨hN, hT⟩
              · refine c3.mono (fun b o' e => ?_) _ _
                rw [B2n fun z => ?_]
                · exact e
                · obtain ⟨j, _, _, m, o2, _⟩ := bj z
                  unfold noBr at hT
                  have := List.all_eq_true.mp hT j m
                  rw [owns_isOw o2] at this
                  cases this
              · exact c3.tmono tups _ _ hT
              · refine c3.lmono tups (fun b ys e => ?_) _ _ hT
                rw [B2n fun z => ?_]
                · exact e
                · obtain ⟨j, ho, c, m, _, _, _, z3, ⟨_, z4⟩, z5⟩ := bj z
                  have e' := s1 _ _ ((B1y z).trans z3)
                  rw [e] at e'
                  cases e'
                  obtain ⟨l', rfl⟩ := OC.is_lst z4
                  unfold noBrL at hN
                  have := List.all_eq_true.mp hN j m
                  unfold isFr at this
                  rw [z5] at this
                  cases this
            refine Rd.put (v := .ref a) g3 (sv := .fr out) |> fun f => ?_
            have f2 := Rd.put (v := .ref a) g3 (sv := .fr out) (.fr g5 ((B2n n1).trans c1) c2 rfl rep2 fun j hj => by
              rw [List.set_set] at hj
              obtain ⟨nj, oj'⟩ := owns_set_none hj
              exact nj (R.sep j i a oj' o))
            rw [List.set_set] at f2
            exact f2
        refine ⟨by rw [ov.length]; exact hn, ds, res, F1, B1, oa, e2, sBH, sFH, ⟨dis1, tb1⟩, inn, ?_⟩
        cases res with
        | exc c out =>
          intro B' H' s1 s2 s3 s4 co
          obtain ⟨B2, R2, sm, _⟩ := back out B' H' s1 s2 s3 s4 co (by
            rcases Bool.or_eq_true _ _ ▸ hbr with h | h
            · exact .inl h
            · unfold resOk at h
              rw [Bool.or_eq_true, Bool.and_eq_true] at h
              rcases h with h | ⟨h, h'⟩
              · exact .inr (.inl h)
              · exact .inr (.inr ⟨h, h'⟩))
          exact q B2 H' R2 sm
        | ret r out =>
          intro v B' H' s1 s2 s3 s4 co cr
          have hbr : noBr io os ρ = true ∨ resT (.ret r out) = true ∨ (noBrL io os ρ = true ∧ resL (.ret r out) = true) := by
            unfold resOk at hbr
            rw [Bool.or_eq_true, Bool.or_eq_true, Bool.and_eq_true] at hbr
            exact hbr
          have hT : noBr io os ρ = true ∨ isTL out = true ∨ (noBrL io os ρ = true ∧ isLL out = true) := by
            rcases hbr with h | h | ⟨h1, h⟩
            · exact .inl h
            · refine .inr (.inl ?_)
              unfold resT at h
              cases r with
              | sh d => exact (Bool.and_eq_true _ _ ▸ h).2
              | ow l => exact (Bool.and_eq_true _ _ ▸ h).2
            · refine .inr (.inr ⟨h1, ?_⟩)
              unfold resL at h
              cases r with
              | sh d => exact (Bool.and_eq_true _ _ ▸ h).2
              | ow l => exact (Bool.and_eq_true _ _ ▸ h).2
          obtain ⟨B2, R2, sm, hB2⟩ := back out B' H' s1 s2 s3 s4 co hT
          have B2y : ∀ {a}, BJ a → B2 a = none := fun {a} h => by rw [hB2]; exact if_pos h
          have B2n : ∀ {a}, ¬ BJ a → B2 a = B' a := fun {a} h => by rw [hB2]; exact if_neg h
          have nobr : noBr io os ρ = true → Same B' B2 := fun hT b o' e => by
            rw [B2n fun z => ?_]
            · exact e
            · obtain ⟨j, _, _, m, o2, _⟩ := bj z
              unfold noBr at hT
              have := List.all_eq_true.mp hT j m
              rw [owns_isOw o2] at this
              cases this
          have tups : ∀ a xs, B' a = some (.tup xs) → B2 a = some (.tup xs) := fun b ys e => by
            rw [B2n fun z => ?_]
            · exact e
            · obtain ⟨j, ho, c, _, _, _, _, z3, ⟨_, z4⟩, _⟩ := bj z
              have e' := s1 _ _ ((B1y z).trans z3)
              rw [e] at e'
              cases e'
              exact OC.not_tup z4
          have lsts : noBrL io os ρ = true → ∀ a xs, B' a = some (.lst xs) → B2 a = some (.lst xs) := fun hN b ys e => by
            rw [B2n fun z => ?_]
            · exact e
            · obtain ⟨j, ho, c, m, _, _, _, z3, ⟨_, z4⟩, z5⟩ := bj z
              have e' := s1 _ _ ((B1y z).trans z3)
              rw [e] at e'
              cases e'
              obtain ⟨l', rfl⟩ := OC.is_lst z4
              unfold noBrL at hN
              have := List.all_eq_true.mp hN j m
              unfold isFr at this
              rw [z5] at this
              cases this
          refine q v B2 H' R2 sm ?_
          cases cr with
          | sh r =>
            rcases hbr with h | h | ⟨h1, h⟩
            · exact .sh (r.mono (nobr h) _ _)
            · unfold resT at h
              exact .sh (r.tmono tups _ _ (Bool.and_eq_true _ _ ▸ h).1)
            · unfold resL at h
              exact .sh (r.lmono tups (lsts h1) _ _ (Bool.and_eq_true _ _ ▸ h).1)
          | @fr a ho xs l hF hB hH hO r no =>
            have nBJ : ¬ BJ a := fun z => by
              obtain ⟨_, _, _, _, _, _, _, z3, _⟩ := bj z
              have e' := s1 _ _ ((B1y z).trans z3)
              rw [hB] at e'
              cases e'
            have nOJ : ¬ OJ a := fun z => by
              obtain ⟨_, _, _, _, _, _, _, z3⟩ := oj z
              have e' := (F1y z).trans z3
              rw [hF] at e'
              cases e'
            refine .fr ((F1n nOJ).symm.trans hF) ((B2n nBJ).trans hB) hH hO ?_ fun j hj => ?_
            · rcases hbr with h | h | ⟨h1, h⟩
              · exact r.mono (nobr h) _ _
              · unfold resT at h
                exact r.tmono tups _ _ (Bool.and_eq_true _ _ ▸ h).1
              · unfold resL at h
                exact r.lmono tups (lsts h1) _ _ (Bool.and_eq_true _ _ ▸ h).1
            · have hj' : Owns σ ρ j a := by
                obtain ⟨⟨ds', g1⟩, g2⟩ := hj
                unfold putO at g1
                cases h1 : ioSlot io os with
                | none =>
                  rw [h1] at g1
                  exact ⟨⟨_, g1⟩, g2⟩
                | some i =>
                  rw [h1] at g1
                  by_cases e : i = j
                  · subst e
                    obtain ⟨k, hk⟩ : ∃ k, io = some k := by
                      cases h : io with
                      | none =>
                        rw [hS0 h] at h1
                        cases h1
                      | some k => exact ⟨k, rfl⟩
                    obtain ⟨i', a', xs', l', g1', _, o, _, g3, _⟩ := hS k hk
                    rw [h1] at g1'
                    cases g1'
                    rw [g3] at g2
                    cases g2
                    exact o
                  · have g1 : (ρ.set i (some (.fr out)))[j]? = _ := g1
                    rw [List.getElem?_set_ne e] at g1
                    exact ⟨⟨_, g1⟩, g2⟩
              by_cases m : j ∈ brs io os
              · exact nBJ (by rw [hBJ]; exact ⟨j, m, hj'⟩)
              · by_cases i : ioSlot io os = some j
                · exact no (hoa j a i hj')
                · exact nOJ (by rw [hOJ]; exact ⟨j, m, i, hj'⟩)
      · rw [if_neg hc] at q
        exact q.elim
end Sim

namespace Sim
open PySem PySem.Spec PyProof.Rows L2

def vCall (n : Nat) (io : Option Nat) (Φ : List D → Option CR) (as : M (List Op)) : M SV := bnd as fun os ρ => if os.length = n then callM io Φ os ρ else none
section
variable {cv : Nat → Value} {X : Cx} {W : WX} {e : Expr} {es : List Expr} {ts : TA} {fs : M (List Op)} {pos p : Pos}
theorem snd_call {n k : Nat} {io : Option Nat} {Φ : List D → Option CR} {f : Addr} {fd : FuncData} {ps : List Str} {x : Str} (G : FnOk X.prog X.w X.K X.mg X.base (L2N.CX X.prog X.w) k f fd ps (spI cv X.K n io Φ)) (hr : Room k X.A) (hg : Gl X x) (hm : X.mg x = some (.ref f))
    (hk : PySem.W.keepIn X.K (.ref f) = true) (hb : Binds X.K fd ps []) (tk : L2N.Takes X W) (ha : SndA cv X W (e :: es) ts fs) (hdb : (x == ("__debug__" : Str)) = false := by decide)
    (he : starEach (e :: es) X.env = (false, eval e X.env) :: starEach es X.env := by rfl) (hpl : (backTo pos (starEach es X.env)).any (·.1) = false := by rfl) :
    SndE cv X W (.Call (.Name x p) (e :: es) [] pos) (tCallS (spI cv X.K n io Φ) (WE W) ts) (vCall n io Φ fs) := by
  refine ⟨pe_callS G hr hg hm hk hb (fun σ => L2N.passAt tk σ) ha.pa hdb he hpl, fun F B H σ ρ Q R q => ?_⟩
  refine ha.ad F B H σ ρ _ R (wpm_mono (wpm_bnd q) (fun os ρ1 q vs B1 H1 R1 sm1 ov => ?_) fun _ _ q => q)
  unfold wpm at q
  by_cases hl : os.length = n
  · simp only [if_pos hl] at q
    exact adm_callM R1 ov hl (wpm_mono (m := callM io Φ os) q (fun a ρ' q v B' H' R' sm rv => q v B' H' R' (sm1.trans sm) rv) fun c ρ' q B' H' R' sm => q B' H' R' (sm1.trans sm))
  · simp only [if_neg hl] at q
end

/-! ### runs of statements -/
inductive SO where
  | nx (ρ : Sl)
  | rt (sv : SV) (ρ : Sl)
  | bk (ρ : Sl)
  | ct (ρ : Sl)
  | ex (c : Nat) (ρ : Sl)
abbrev SM := Sl → Option SO
structure Ws where
  nx : Sl → Prop
  rt : SV → Sl → Prop
  bk : Sl → Prop
  ct : Sl → Prop
  ex : Nat → Sl → Prop
def Ws.at (Z : Ws) : Option SO → Prop
  | none => False
  | some (.nx ρ) => Z.nx ρ
  | some (.rt sv ρ) => Z.rt sv ρ
  | some (.bk ρ) => Z.bk ρ
  | some (.ct ρ) => Z.ct ρ
  | some (.ex c ρ) => Z.ex c ρ
def Agr (w : List Nat) (σ σ' : L2.St) : Prop := ∀ j, j ∉ w → σ'[j]? = σ[j]?
theorem Agr.refl {w : List Nat} {σ : L2.St} : Agr w σ σ := fun _ _ => rfl
theorem Agr.trans {w w' : List Nat} {σ σ1 σ2 : L2.St} (a : Agr w σ σ1) (b : Agr w' σ1 σ2) : Agr (w ++ w') σ σ2 := fun j h => by
  rw [List.mem_append, not_or] at h
  exact (b j h.2).trans (a j h.1)
theorem Agr.mono {w w' : List Nat} {σ σ' : L2.St} (a : Agr w σ σ') (h : ∀ j, j ∈ w → j ∈ w') : Agr w' σ σ' := fun j hj => a j fun z => hj (h j z)
theorem Agr.tr {w : List Nat} {σ σ1 σ2 : L2.St} (a : Agr w σ σ1) (b : Agr w σ1 σ2) : Agr w σ σ2 := fun j h => (b j h).trans (a j h)
/-- what is wanted behind a statement that began at B, σ -/
def wsOf (cv : Nat → Value) (W : WX) (K : PySem.W.Frag) (F B : Hp) (σ : L2.St) (w : List Nat) (D : Ends) : Ws where
  nx := fun ρ' => ∀ σ' B' H', Rel K F B' H' σ' ρ' → Same B B' → Agr w σ σ' → D.nx σ' H'
  rt := fun sv ρ' => ∀ v σ' B' H', Rel K F B' H' σ' ρ' → Same B B' → Agr w σ σ' → RV K F B' H' σ' ρ' v sv → D.rt v H'
  bk := fun ρ' => ∀ σ' B' H', Rel K F B' H' σ' ρ' → Same B B' → Agr w σ σ' → D.bk σ' H'
  ct := fun ρ' => ∀ σ' B' H', Rel K F B' H' σ' ρ' → Same B B' → Agr w σ σ' → D.ct σ' H'
  ex := fun c ρ' => ∀ σ' B' H', Rel K F B' H' σ' ρ' → Same B B' → Agr w σ σ' → W (cv c) none σ' H'
def AdmS (cv : Nat → Value) (W : WX) (K : PySem.W.Frag) (t : TS) (m : SM) (w : List Nat) : Prop :=
  ∀ (F B H : Hp) (σ : L2.St) (ρ : Sl) (D : Ends), Rel K F B H σ ρ → (wsOf cv W K F B σ w D).at (m ρ) → t D σ H
structure SndS (cv : Nat → Value) (X : Cx) (W : WX) (st : Stmt) (t : TS) (m : SM) (w : List Nat) : Prop where
  ps : PS X st t
  ad : AdmS cv W X.K t m w
structure SndSs (cv : Nat → Value) (X : Cx) (W : WX) (st : List Stmt) (t : TS) (m : SM) (w : List Nat) : Prop where
  ps : PSs X st t
  ad : AdmS cv W X.K t m w
/-- what an end asks, step by step -/
structure Ws.Le (Z Z' : Ws) : Prop where
  nx : ∀ ρ, Z.nx ρ → Z'.nx ρ
  rt : ∀ sv ρ, Z.rt sv ρ → Z'.rt sv ρ
  bk : ∀ ρ, Z.bk ρ → Z'.bk ρ
  ct : ∀ ρ, Z.ct ρ → Z'.ct ρ
  ex : ∀ c ρ, Z.ex c ρ → Z'.ex c ρ
theorem Ws.at.mono {Z Z' : Ws} (l : Ws.Le Z Z') : ∀ {o : Option SO}, Z.at o → Z'.at o
  | none, h => h
  | some (.nx ρ), h => l.nx ρ h
  | some (.rt sv ρ), h => l.rt sv ρ h
  | some (.bk ρ), h => l.bk ρ h
  | some (.ct ρ), h => l.ct ρ h
  | some (.ex c ρ), h => l.ex c ρ h
theorem wsOf.later {cv : Nat → Value} {W : WX} {K : PySem.W.Frag} {F B B1 : Hp} {σ σ1 : L2.St} {w w1 w2 : List Nat} {D : Ends} (sm : Same B B1) (ag : Agr w1 σ σ1) (h1 : ∀ j, j ∈ w1 → j ∈ w) (h2 : ∀ j, j ∈ w2 → j ∈ w) : Ws.Le (wsOf cv W K F B σ w D) (wsOf cv W K F B1 σ1 w2 D) where
  nx := fun ρ q σ' B' H' R s a => q σ' B' H' R (sm.trans s) ((ag.mono h1).tr (a.mono h2))
  rt := fun sv ρ q v σ' B' H' R s a rv => q v σ' B' H' R (sm.trans s) ((ag.mono h1).tr (a.mono h2)) rv
  bk := fun ρ q σ' B' H' R s a => q σ' B' H' R (sm.trans s) ((ag.mono h1).tr (a.mono h2))
  ct := fun ρ q σ' B' H' R s a => q σ' B' H' R (sm.trans s) ((ag.mono h1).tr (a.mono h2))
  ex := fun c ρ q σ' B' H' R s a => q σ' B' H' R (sm.trans s) ((ag.mono h1).tr (a.mono h2))

/-! ### statements -/
def sNx : SM := fun ρ => some (.nx ρ)
def sBk : SM := fun ρ => some (.bk ρ)
def sCt : SM := fun ρ => some (.ct ρ)
def sSeq (m n : SM) : SM := fun ρ => match m ρ with
  | some (.nx ρ') => n ρ'
  | o => o
/-- an expression, then what its value does -/
def sEx {α : Type} (f : M α) (k : α → SM) : SM := fun ρ => match f ρ with
  | none => none
  | some (.ex c ρ') => some (.ex c ρ')
  | some (.ok a ρ') => k a ρ'
def sIf (c : M Bool) (m n : SM) : SM := sEx c fun b => if b = true then m else n
def sRet (f : M SV) : SM := sEx f fun sv ρ => some (.rt sv ρ)
def sRetN : SM := fun ρ => some (.rt (.sh .non) ρ)
def sDrop (f : M SV) : SM := sEx f fun _ ρ => some (.nx ρ)
def sAsg (f : M SV) (g : SV → Sl → Option Sl) : SM := sEx f fun sv ρ => (g sv ρ).map .nx
def gN (i : Nat) : SV → Sl → Option Sl := fun sv ρ => if i < ρ.length then some (ρ.set i (some sv)) else none
def gT (n : Nat) (gs : List D → Sl → Option Sl) : SV → Sl → Option Sl := fun sv ρ => match sv with
  | .sh (.tup l) => if l.length = n then gs l ρ else none
  | _ => none
def gsN : List D → Sl → Option Sl := fun l ρ => match l with
  | [] => some ρ
  | _ => none
def gsC (g : SV → Sl → Option Sl) (gs : List D → Sl → Option Sl) : List D → Sl → Option Sl := fun l ρ => match l with
  | d :: ds => (g (.sh d) ρ).bind (gs ds)
  | _ => none
def AdmG (K : PySem.W.Frag) (t : TG) (g : SV → Sl → Option Sl) (w : List Nat) : Prop :=
  ∀ (F B H : Hp) (σ : L2.St) (ρ : Sl) (v : V) (sv : SV) (ρ' : Sl) (Q : L2.St → Hp → Prop), Rel K F B H σ ρ → RV K F B H σ ρ v sv → g sv ρ = some ρ' →
    (∀ σ', Rel K F B H σ' ρ' → Agr w σ σ' → σ'.length = σ.length → Q σ' H) → t v σ H Q
def AdmGs (K : PySem.W.Frag) (t : TGs) (g : List D → Sl → Option Sl) (w : List Nat) : Prop :=
  ∀ (F B H : Hp) (σ : L2.St) (ρ : Sl) (vs : List V) (ds : List D) (ρ' : Sl) (Q : L2.St → Hp → Prop), Rel K F B H σ ρ → RepL K B vs ds → g ds ρ = some ρ' →
    (∀ σ', Rel K F B H σ' ρ' → Agr w σ σ' → σ'.length = σ.length → Q σ' H) → t vs σ H Q
structure SndG (X : Cx) (e : Expr) (t : TG) (g : SV → Sl → Option Sl) (w : List Nat) : Prop where
  pg : PG X e t
  ad : AdmG X.K t g w
structure SndGs (X : Cx) (es : List Expr) (t : TGs) (g : List D → Sl → Option Sl) (w : List Nat) : Prop where
  pg : PGs X es t
  ad : AdmGs X.K t g w
theorem Rel.store {K : PySem.W.Frag} {F B H : Hp} {σ : L2.St} {ρ : Sl} {v : V} {sv : SV} {i : Nat} (R : Rel K F B H σ ρ) (r : RV K F B H σ ρ v sv) (hi : i < ρ.length) : Rel K F B H (σ.set i (some v)) (ρ.set i (some sv)) := by
  have hs : i < σ.length := R.len ▸ hi
  have base : Rel K F B H (σ.set i (some v)) (ρ.set i none) := by
    refine ⟨R.exB, R.exF, R.dis, by rw [List.length_set, List.length_set]; exact R.len, fun j s h => ?_, fun j k a h1 h2 => ?_, R.tb⟩
    · by_cases e : i = j
      · subst e
        rw [List.getElem?_set_self hi] at h
        cases h
      · rw [List.getElem?_set_ne e] at h
        rw [List.getElem?_set_ne e]
        exact R.slot j s h
    · have ow : ∀ {j a}, Owns (σ.set i (some v)) (ρ.set i none) j a → Owns σ ρ j a := fun {j a} h => by
        obtain ⟨⟨l, g1⟩, g2⟩ := h
        by_cases e : i = j
        · subst e
          rw [List.getElem?_set_self hi] at g1
          cases g1
        · rw [List.getElem?_set_ne e] at g1 g2
          exact ⟨⟨l, g1⟩, g2⟩
      exact R.sep j k a (ow h1) (ow h2)
  have f := base.put (v := v) (i := i) (sv := sv) (List.getElem?_set_self hs) (by
    cases r with
    | sh r => exact .sh r
    | fr hF hB hH hO r no =>
      refine .fr hF hB hH hO r fun j hj => ?_
      rw [List.set_set] at hj
      obtain ⟨⟨l, g1⟩, g2⟩ := hj
      by_cases e : i = j
      · subst e
        rw [List.getElem?_set_self hi] at g1
        cases g1
      · rw [List.getElem?_set_ne e] at g1 g2
        exact no j ⟨⟨l, g1⟩, g2⟩)
  rw [List.set_set] at f
  exact f
section
variable {cv : Nat → Value} {X : Cx} {W : WX} {e a b c : Expr} {es : List Expr} {st : Stmt} {sts as bs : List Stmt} {te ta tb : TE} {tc : TT} {t u : TS} {f : M SV} {m n : SM} {w w' : List Nat} {pos p p2 : Pos}
theorem sng_name {i : Nat} {x : Str} (hN : X.N.Nodup) (hi : X.N[i]? = some x) (hx : Loc X.env.scope x) (hf : X.fn x = true ∨ X.env.scope.names.lookup x = some .local := by first | exact .inl rfl | exact .inr rfl | assumption) : SndG X (.Name x pos) (gName i) (gN i) [i] := by
  refine ⟨pg_name hN hi hx hf, fun F B H σ ρ v sv ρ' Q R r h q => ?_⟩
  unfold gN at h
  split at h
  · rename_i hl
    cases h
    refine q _ (R.store r hl) (fun j hj => ?_) (by rw [List.length_set])
    rw [List.getElem?_set_ne fun z => hj (by rw [z]; exact List.mem_singleton_self j)]
  · cases h
theorem sngs_nil : SndGs X [] gNil gsN [] := by
  refine ⟨pgs_nil, fun F B H σ ρ vs ds ρ' Q R r h q => ?_⟩
  unfold gsN at h
  split at h
  · cases h
    cases r
    exact ⟨rfl, q σ R Agr.refl rfl⟩
  · cases h
theorem sngs_cons {tg : TG} {tgs : TGs} {g : SV → Sl → Option Sl} {gs : List D → Sl → Option Sl} (h1 : SndG X e tg g w) (h2 : SndGs X es tgs gs w')
    (hs : (assignEach (e :: es) X.env).map (·.2) = assign e X.env :: (assignEach es X.env).map (·.2) := by rfl) : SndGs X (e :: es) (gCons tg tgs) (gsC g gs) (w ++ w') := by
  refine ⟨pgs_cons h1.pg h2.pg hs, fun F B H σ ρ vs ds ρ' Q R r h q => ?_⟩
  unfold gsC at h
  split at h
  · rename_i d ds'
    cases r with
    | @cons v _ vs' _ rd rt =>
      cases e1 : g (.sh d) ρ with
      | none =>
        rw [e1] at h
        cases h
      | some ρ1 =>
        rw [e1] at h
        refine ⟨_, _, rfl, h1.ad F B H σ ρ v _ ρ1 _ R (.sh rd) e1 fun σ1 R1 a1 l1 => ?_⟩
        exact h2.ad F B H σ1 ρ1 vs' ds' ρ' Q R1 rt h fun σ2 R2 a2 l2 => q σ2 R2 (a1.trans a2) (l2.trans l1)
  · cases h
theorem sng_tup {k len : Nat} {tgs : TGs} {gs : List D → Sl → Option Sl} (hc : X.calm = true) (h : SndGs X es tgs gs w)
    (hn : (assignEach es X.env).length = len := by rfl) (hst : (assignEach es X.env).findIdx? (·.1) = none := by rfl) : SndG X (.Tuple es k pos) (gTup X.K len tgs) (gT len gs) w := by
  refine ⟨pg_tup hc h.pg hn hst, fun F B H σ ρ v sv ρ' Q R r h1 q => ?_⟩
  unfold gT at h1
  split at h1
  · rename_i l
    split at h1
    · rename_i hl
      cases r with
      | sh r =>
        cases r with
        | tup ha rl => exact ⟨_, _, rfl, (ha.mono fun a xs q => R.exB a _ q).sq, rl.length.trans hl, h.ad F B H σ ρ _ l ρ' Q R rl h1 q⟩
    · cases h1
  · cases h1
theorem sns_nil : SndSs cv X W [] tNext sNx [] := ⟨pss_nil, fun F B H σ ρ D R q => q σ B H R (Same.refl _) Agr.refl⟩
theorem adm_seq (h1 : AdmS cv W X.K t m w) (h2 : AdmS cv W X.K u n w') : AdmS cv W X.K (tSeq t u) (sSeq m n) (w ++ w') := by
  intro F B H σ ρ D R q
  refine h1 F B H σ ρ _ R ?_
  unfold sSeq at q
  split at q
  · rename_i ρ1 e1
    rw [e1]
    intro σ1 B1 H1 R1 sm ag
    exact h2 F B1 H1 σ1 ρ1 D R1 (Ws.at.mono (wsOf.later sm ag (fun j h => List.mem_append_left _ h) fun j h => List.mem_append_right _ h) q)
  · rename_i hno
    cases e1 : m ρ with
    | none =>
      rw [e1] at q
      exact q
    | some o =>
      rw [e1] at q
      cases o with
      | nx ρ1 => exact (hno ρ1 e1).elim
      | rt sv ρ1 => exact fun v σ' B' H' R s a rv => q v σ' B' H' R s (a.mono fun j h => List.mem_append_left _ h) rv
      | bk ρ1 => exact fun σ' B' H' R s a => q σ' B' H' R s (a.mono fun j h => List.mem_append_left _ h)
      | ct ρ1 => exact fun σ' B' H' R s a => q σ' B' H' R s (a.mono fun j h => List.mem_append_left _ h)
      | ex c ρ1 => exact fun σ' B' H' R s a => q σ' B' H' R s (a.mono fun j h => List.mem_append_left _ h)
theorem sns_cons (h1 : SndS cv X W st t m w) (h2 : SndSs cv X W sts u n w') : SndSs cv X W (st :: sts) (tSeq t u) (sSeq m n) (w ++ w') := ⟨pss_cons h1.ps h2.ps, adm_seq h1.ad h2.ad⟩
theorem sns_one (h1 : SndS cv X W st t m w) : SndSs cv X W [st] t m w := ⟨pss_one h1.ps, h1.ad⟩
/-- an expression ahead of a statement's own -/
theorem ws_ex {α : Type} {K : PySem.W.Frag} {F B : Hp} {σ : L2.St} {D : Ends} {f : M α} {k : α → SM} {ρ : Sl} (q : (wsOf cv W K F B σ w D).at (sEx f k ρ)) :
    wpm f ρ (fun a ρ' => (wsOf cv W K F B σ w D).at (k a ρ')) fun c ρ' => ∀ B' H', Rel K F B' H' σ ρ' → Same B B' → W (cv c) none σ H' := by
  unfold sEx at q
  unfold wpm
  cases e : f ρ with
  | none =>
    rw [e] at q
    exact q
  | some o =>
    rw [e] at q
    cases o with
    | ok a ρ' => exact q
    | ex c ρ' => exact fun B' H' R s => q σ B' H' R s Agr.refl
theorem sns_if {f' : M Bool} (hc : SndB cv X W c tc f') (ha : SndSs cv X W as t m w) (hb : SndSs cv X W bs u n w') : SndS cv X W (.If c as bs pos) (tIfS tc t u) (sIf f' m n) (w ++ w') := by
  refine ⟨ps_if hc.pt ha.ps hb.ps, fun F B H σ ρ D R q => ?_⟩
  refine hc.ad F B H σ ρ _ R (wpm_mono (ws_ex q) (fun b ρ1 q b' B1 H1 R1 sm e1 => ?_) fun _ _ q => q)
  subst e1
  cases b' with
  | true => exact ha.ad F B1 H1 σ ρ1 D R1 (Ws.at.mono (wsOf.later (w1 := []) sm Agr.refl (fun j h => nomatch h) fun j h => List.mem_append_left _ h) q)
  | false => exact hb.ad F B1 H1 σ ρ1 D R1 (Ws.at.mono (wsOf.later (w1 := []) sm Agr.refl (fun j h => nomatch h) fun j h => List.mem_append_right _ h) q)
theorem sns_ret (h : SndE cv X W e te f) : SndS cv X W (.Return (some e) pos) (tRet te) (sRet f) [] := by
  refine ⟨ps_ret h.pe, fun F B H σ ρ D R q => ?_⟩
  exact h.ad F B H σ ρ _ R (wpm_mono (ws_ex q) (fun b ρ1 q v B1 H1 R1 sm rv => q v σ B1 H1 R1 sm Agr.refl rv) fun _ _ q => q)
theorem adm_asg {tg : TG} {g : SV → Sl → Option Sl} (h : Adm cv W X.K te f (RV X.K)) (hg : AdmG X.K tg g w) : AdmS cv W X.K (tAsg te tg) (sAsg f g) w := by
  intro F B H σ ρ D R q
  refine h F B H σ ρ _ R (wpm_mono (ws_ex q) (fun sv ρ1 q v B1 H1 R1 sm rv => ?_) fun _ _ q => q)
  cases e1 : g sv ρ1 with
  | none =>
    simp only [e1, Option.map_none] at q
    exact q.elim
  | some ρ2 =>
    simp only [e1, Option.map_some] at q
    exact hg F B1 H1 σ ρ1 v sv ρ2 _ R1 rv e1 fun σ' R2 ag _ => q σ' B1 H1 R2 sm ag
theorem sns_set {i : Nat} {x : Str} (hN : X.N.Nodup) (hi : X.N[i]? = some x) (hx : Loc X.env.scope x) (h : SndE cv X W e te f) (hs : swapsWith e (some (.Name x p)) pos.line X.env = pure false := by rfl)
    (hf : X.fn x = true ∨ X.env.scope.names.lookup x = some .local := by first | exact .inl rfl | exact .inr rfl | assumption) : SndS cv X W (.Assign [.Name x p] e pos) (tAsg te (gName i)) (sAsg f (gN i)) [i] :=
  ⟨ps_set hN hi hx h.pe hs hf, adm_asg h.ad (sng_name (pos := p) hN hi hx hf).ad⟩
theorem sns_asg {tg : TG} {g : SV → Sl → Option Sl} (h : SndE cv X W e te f) (hg : SndG X a tg g w) (hs : swapsWithSole [a] e pos.line X.env = pure false := by rfl) (hw : swappedStores [a] e X.env = pure none := by rfl)
    (h1 : (assignEach [a] X.env).map (·.2) = [assign a X.env] := by rfl) : SndS cv X W (.Assign [a] e pos) (tAsg te tg) (sAsg f g) w := ⟨ps_asg h.pe hg.pg hs hw h1, adm_asg h.ad hg.ad⟩
/-- a, b = x, y by plain local names -/
def sPar (i j : Nat) (as : M (List Op)) : SM := sEx as fun os ρ => match vals os with
  | some [x, y] => if i < ρ.length ∧ j < ρ.length then some (.nx ((ρ.set i (some (.sh x))).set j (some (.sh y)))) else none
  | _ => none
theorem sns_par {i j : Nat} {x y : Str} {tas : TA} {fas : M (List Op)} {px py pt : Pos} {kt k2 : Nat} {pt2 : Pos} (hc : X.calm = true) (hN : X.N.Nodup) (hi : X.N[i]? = some x) (hj : X.N[j]? = some y) (hij : i ≠ j)
    (hx : X.env.scope.names.lookup x = some .local) (hy : X.env.scope.names.lookup y = some .local) (ha : SndA cv X W [a, b] tas fas)
    (hw : swappedStores [.Tuple [.Name x px, .Name y py] kt pt] (.Tuple [a, b] k2 pt2) X.env = pure (some [x, y]) := by rfl)
    (hs : swapsWithSole [.Tuple [.Name x px, .Name y py] kt pt] (.Tuple [a, b] k2 pt2) pos.line X.env = pure false := by rfl) :
    SndS cv X W (.Assign [.Tuple [.Name x px, .Name y py] kt pt] (.Tuple [a, b] k2 pt2) pos) (tPar i j tas) (sPar i j fas) [i, j] := by
  refine ⟨ps_par hc hN hi hj hij hx hy ha.pa hw hs, fun F B H σ ρ D R q => ?_⟩
  refine ha.ad F B H σ ρ _ R (wpm_mono (ws_ex q) (fun os ρ1 q vs B1 H1 R1 sm ov => ?_) fun _ _ q => q)
  split at q
  · rename_i dx dy e1
    split at q
    · rename_i hl
      have rl := ov.vals e1
      cases rl with
      | cons r1 rl =>
        cases rl with
        | cons r2 rl =>
          cases rl
          refine ⟨_, _, rfl, ?_⟩
          have R2 := R1.store (.sh r1) hl.1
          have R3 := R2.store (i := j) (.sh r2) (by rw [List.length_set]; exact hl.2)
          refine q _ B1 H1 R3 sm fun k hk => ?_
          rw [List.getElem?_set_ne fun z => hk (by rw [← z]; exact List.mem_cons_of_mem _ List.mem_cons_self), List.getElem?_set_ne fun z => hk (by rw [← z]; exact List.mem_cons_self)]
    · exact q.elim
  · exact q.elim
end
end Sim

namespace Sim
open PySem PySem.Spec PyProof.Rows L2

/-! ### a def's body -/
def frO : Option D → Option SV
  | some (.lst l) => some (.fr l)
  | _ => none
def shL (ds : List D) : Sl := ds.map fun d => some (.sh d)
def startL (io : Option Nat) (ds : List D) : Sl := match io with
  | none => shL ds
  | some k => (shL ds).set k (frO ds[k]?)
def startS (io : Option Nat) (L : Nat) (ds : List D) : Sl := startL io ds ++ List.replicate (L - ds.length) none
def outS (io : Option Nat) (ρ : Sl) : Option (List D) := match io with
  | none => some []
  | some i => match ρ[i]? with
    | some (some (.ow (.lst l))) => some l
    | _ => none
def runB (io : Option Nat) (L : Nat) (m : SM) (ds : List D) : Option CR := match m (startS io L ds) with
  | some (.nx ρ) => (outS io ρ).map (.ret (.sh .non))
  | some (.rt sv ρ) => (outS io ρ).map (.ret sv)
  | some (.ex c ρ) => (outS io ρ).map (.exc c)
  | _ => none
theorem startL_length (io : Option Nat) (ds : List D) : (startL io ds).length = ds.length := by
  unfold startL shL
  cases io with
  | none => exact List.length_map _
  | some k => exact (List.length_set).trans (List.length_map _)
theorem shL_at {ds : List D} {i : Nat} {sv : SV} (h : (shL ds)[i]? = some (some sv)) : ∃ d, ds[i]? = some d ∧ sv = .sh d := by
  unfold shL at h
  rw [List.getElem?_map] at h
  cases e : ds[i]? with
  | none =>
    rw [e] at h
    cases h
  | some d =>
    rw [e] at h
    cases h
    exact ⟨d, rfl, rfl⟩
theorem frO_at {o : Option D} {sv : SV} (h : frO o = some sv) : ∃ l, o = some (.lst l) ∧ sv = .fr l := by
  unfold frO at h
  split at h
  · rename_i l
    cases h
    exact ⟨l, rfl, rfl⟩
  · cases h
theorem startL_at {io : Option Nat} {ds : List D} {i : Nat} {sv : SV} (h : (startL io ds)[i]? = some (some sv)) : ∃ d, ds[i]? = some d ∧ ((io ≠ some i ∧ sv = .sh d) ∨ (io = some i ∧ ∃ l, d = .lst l ∧ sv = .fr l)) := by
  unfold startL at h
  cases io with
  | none =>
    obtain ⟨d, h1, h2⟩ := shL_at h
    exact ⟨d, h1, .inl ⟨(fun z => nomatch z), h2⟩⟩
  | some k =>
    have h : ((shL ds).set k (frO ds[k]?))[i]? = some (some sv) := h
    by_cases e : k = i
    · subst e
      obtain ⟨hl, _⟩ := List.getElem?_eq_some_iff.mp h
      rw [List.length_set] at hl
      rw [List.getElem?_set_self hl] at h
      obtain ⟨l, h1, h2⟩ := frO_at (Option.some.inj h)
      exact ⟨_, h1, .inr ⟨rfl, l, rfl, h2⟩⟩
    · rw [List.getElem?_set_ne e] at h
      obtain ⟨d, h1, h2⟩ := shL_at h
      exact ⟨d, h1, .inl ⟨fun z => e (Option.some.inj z), h2⟩⟩
theorem rel_start {K : PySem.W.Frag} {F B H : Hp} {N : List Str} {io : Option Nat} {vs : List V} {ds : List D} {oa : Option Addr} (sB : Same B H) (sF : Same F H) (dis : DisT F B H) (c : CallIn K F B H io vs ds oa) :
    Rel K F B H (L2.start N vs) (startS io N.length ds) := by
  have gl : ∀ {i : Nat} {v : V}, vs[i]? = some v → (L2.start N vs)[i]? = some (some v) := fun {i v} h => by
    unfold L2.start
    obtain ⟨hl, _⟩ := List.getElem?_eq_some_iff.mp h
    rw [List.getElem?_append_left (by rw [List.length_map]; exact hl), List.getElem?_map, h]
    rfl
  have gs : ∀ {i : Nat} {sv : SV}, (startS io N.length ds)[i]? = some (some sv) → (startL io ds)[i]? = some (some sv) := fun {i sv} h => by
    unfold startS at h
    by_cases hl : i < (startL io ds).length
    · rw [List.getElem?_append_left hl] at h
      exact h
    · rw [List.getElem?_append_right (Nat.le_of_not_lt hl), List.getElem?_replicate] at h
      split at h <;> cases h
  refine ⟨sB, sF, dis.1, ?_, fun i sv h => ?_, fun i j a h1 h2 => ?_, dis.2⟩
  · unfold startS L2.start
    rw [List.length_append, List.length_append, List.length_map, startL_length, List.length_replicate, List.length_replicate, c.len]
  · obtain ⟨d, hd, q⟩ := startL_at (gs h)
    rcases q with ⟨n, rfl⟩ | ⟨e, l, rfl, rfl⟩
    · obtain ⟨hl, _⟩ := List.getElem?_eq_some_iff.mp hd
      obtain ⟨v, hv⟩ : ∃ v, vs[i]? = some v := ⟨_, List.getElem?_eq_getElem (by rw [c.len]; exact hl)⟩
      rw [gl hv]
      exact .sh (c.sh i _ d hv hd n)
    · obtain ⟨a, xs, l', g1, g2, g3, g4, g5, g6, g7⟩ := c.inn i e
      rw [hd] at g2
      cases g2
      rw [gl g1]
      exact .fr g4 g5 g6 rfl g7
  · obtain ⟨⟨l1, g1⟩, _⟩ := h1
    obtain ⟨⟨l2, g2⟩, _⟩ := h2
    obtain ⟨d1, _, q1⟩ := startL_at (gs g1)
    obtain ⟨d2, _, q2⟩ := startL_at (gs g2)
    rcases q1 with ⟨_, z⟩ | ⟨e1, _⟩
    · cases z
    · rcases q2 with ⟨_, z⟩ | ⟨e2, _⟩
      · cases z
      · rw [e1] at e2
        cases e2
        rfl
section
variable {P : Program} {w' : World} {K : PySem.W.Frag} {mg : Str → Option Value} {base : Heap} {cv : Nat → Value}
theorem ends_of {n : Nat} {io : Option Nat} {Φ : List D → Option CR} {N : List Str} {m : SM} {w : List Nat} {t : TS} {E : XK} {W : WX} (hW : ∀ cls d σ H, E cls d H → W cls d σ H) (hio : ∀ i, io = some i → i ∉ w) (ad : AdmS cv W K t m w)
    (run : ∀ ds res, Φ ds = some res → runB io N.length m ds = some res) {vs : List V} {H : Hp} {Q : VK} (h : spI cv K n io Φ vs H Q E) : t { nx := fun _ H' => Q .non H', rt := Q } (L2.start N vs) H := by
  obtain ⟨_, ds, res, F, B, oa, hΦ, sB, sF, dis, c, o⟩ := h
  have R0 := rel_start (N := N) sB sF dis c
  have r := run ds res hΦ
  unfold runB at r
  refine ad F B H _ _ _ R0 ?_
  -- the changed argument's list, at the end
  have cout : ∀ {ρ' : Sl} {σ' : L2.St} {B' H' : Hp} {out : List D}, Rel K F B' H' σ' ρ' → Agr w (L2.start N vs) σ' → outS io ρ' = some out → CallOut K B' H' oa out ∧ ∀ a, oa = some a → ∃ i, Owns σ' ρ' i a := fun {ρ' σ' B' H' out} R ag e => by
    have key : ∀ a, oa = some a → ∃ i l, io = some i ∧ ρ'[i]? = some (some (.fr l)) ∧ l = out ∧ σ'[i]? = some (some (.ref a)) := fun a ea => by
      cases hi : io with
      | none =>
        rw [c.no hi] at ea
        cases ea
      | some i =>
        obtain ⟨a', xs, l, g1, g2, g3, g4, g5, g6, g7⟩ := c.inn i hi
        rw [ea] at g3
        cases g3
        have hs : (L2.start N vs)[i]? = some (some (.ref a)) := by
          unfold L2.start
          obtain ⟨hl, _⟩ := List.getElem?_eq_some_iff.mp g1
          rw [List.getElem?_append_left (by rw [List.length_map]; exact hl), List.getElem?_map, g1]
          rfl
        have hs' := (ag i (hio i hi)).trans hs
        unfold outS at e
        simp only [hi] at e
        split at e
        · rename_i l' el
          cases e
          exact ⟨i, out, rfl, el, rfl, hs'⟩
        · cases e
    refine ⟨fun a ea => ?_, fun a ea => ?_⟩
    · obtain ⟨i, l, hi, el, rfl, hs⟩ := key a ea
      have s := R.slot i _ el
      rw [hs] at s
      cases s with
      | fr hF hB hH hO r =>
        cases hO
        exact ⟨hB, _, hH, r⟩
    · obtain ⟨i, l, hi, el, rfl, hs⟩ := key a ea
      exact ⟨i, ⟨_, el⟩, hs⟩
  split at r
  · rename_i ρ' e1
    rw [e1]
    cases e2 : outS io ρ' with
    | none =>
      rw [e2] at r
      cases r
    | some out =>
      rw [e2] at r
      cases r
      intro σ' B' H' R sm ag
      exact o .non B' H' sm R.exB R.exF ⟨R.dis, R.tb⟩ (cout R ag e2).1 (.sh .non)
  · rename_i sv ρ' e1
    rw [e1]
    cases e2 : outS io ρ' with
    | none =>
      rw [e2] at r
      cases r
    | some out =>
      rw [e2] at r
      cases r
      intro v σ' B' H' R sm ag rv
      refine o v B' H' sm R.exB R.exF ⟨R.dis, R.tb⟩ (cout R ag e2).1 ?_
      cases rv with
      | sh r => exact .sh r
      | fr hF hB hH hO r no =>
        refine .fr hF hB hH hO r fun z => ?_
        obtain ⟨i, oi⟩ := (cout R ag e2).2 _ z
        exact no i oi
  · rename_i cx ρ' e1
    rw [e1]
    cases e2 : outS io ρ' with
    | none =>
      rw [e2] at r
      cases r
    | some out =>
      rw [e2] at r
      cases r
      intro σ' B' H' R sm ag
      exact hW _ _ _ _ (o B' H' sm R.exB R.exF ⟨R.dis, R.tb⟩ (cout R ag e2).1)
  · cases r
/-- THE RULE for a def -/
theorem fn_ok {x qual : Str} {st : Stmt} {f : Addr} {fd : FuncData} {N ps : List Str} {k n : Nat} {io : Option Nat} {Φ : List D → Option CR} {m : SM} {w : List Nat} (G : Fun K x qual st f fd) (S : FnScope N ps (defScope st)) (hn : ps.length = n) (hio : ∀ i, io = some i → i ∉ w)
    (body : ∀ (cdv : Value) (A : Around) (outer : List Env) (s : Shared) (H : Hp) (E : XK), Room k (A.deeper (envOfC qual (defScope st) s.heap.objs.size f cdv)) →
      ∃ t, SndSs cv (cxOf (L2N.CX P w') P w' K mg base N qual (defScope st) f cdv A outer s H E) (fun cls d _ H => E cls d H) (defBody st) t m w)
    (run : ∀ ds res, Φ ds = some res → runB io N.length m ds = some res) : FnOk P w' K mg base (L2N.CX P w') (k + 1) f fd ps (spI cv K n io Φ) := by
  refine okXN G S (fun vs H Q E h => h.1.trans hn.symm) fun cdv A outer s H vs Q E hr h => ?_
  obtain ⟨t, b⟩ := body cdv A outer s H E hr
  exact ⟨t, b.ps, ends_of (fun _ _ _ _ h => h) hio b.ad run h⟩
end

end Sim

namespace Sim
open PySem PySem.Spec PyProof.Rows L2

/-! ### what is walked -/
structure Itb where
  ds : List D
  pk : List (Nat × List D)
def ItOk (K : PySem.W.Frag) (B : Hp) (σ : L2.St) (J : It) (ib : Itb) : Prop :=
  ∀ (F1 B1 H1 : Hp) (σ1 : L2.St) (ρ1 : Sl), Rel K F1 B1 H1 σ1 ρ1 → Same B B1 → (∀ q ∈ ib.pk, σ1[q.1]? = σ[q.1]? ∧ ρ1[q.1]? = some (some (.fr q.2))) →
    ∀ i, (∀ d, ib.ds[i]? = some d → J.go i H1 ∧ ∀ x H', J.yld i H1 x H' → ∃ B', Rel K F1 B' H' σ1 ρ1 ∧ Same B1 B' ∧ Rep K B' x d) ∧ (ib.ds.length ≤ i → J.stop i H1)
def AdmI (cv : Nat → Value) (W : WX) (K : PySem.W.Frag) (t : TI) (m : M Itb) : Prop :=
  ∀ (F B H : Hp) (σ : L2.St) (ρ : Sl) (R' : It → Hp → Prop), Rel K F B H σ ρ →
    wpm m ρ (fun ib ρ' => ∀ J B' H', Rel K F B' H' σ ρ' → Same B B' → ItOk K B' σ J ib → R' J H') (fun c ρ' => ∀ B' H', Rel K F B' H' σ ρ' → Same B B' → W (cv c) none σ H') → t σ H R'
structure SndI (cv : Nat → Value) (X : Cx) (W : WX) (tg iter : Expr) (t : TI) (m : M Itb) : Prop where
  pi : PI X tg iter t
  ad : AdmI cv W X.K t m
/-- a list operand's items, and the slot that it hangs on -/
def lsOf (ρ : Sl) : Op → Option Itb
  | .val (.lst l) => some ⟨l, []⟩
  | .val (.scr l) => some ⟨l.map .int, []⟩
  | .slot i => match ρ[i]? with
    | some (some (.ow (.lst l))) => some ⟨l, [(i, l)]⟩
    | some (some (.sh (.lst l))) => some ⟨l, []⟩
    | some (some (.sh (.scr l))) => some ⟨l.map .int, []⟩
    | _ => none
  | _ => none
/-- at every later state the list is there -/
def LsAt (K : PySem.W.Frag) (B : Hp) (σ : L2.St) (a : Addr) (ib : Itb) : Prop :=
  ∀ (F1 B1 H1 : Hp) (σ1 : L2.St) (ρ1 : Sl), Rel K F1 B1 H1 σ1 ρ1 → Same B B1 → (∀ q ∈ ib.pk, σ1[q.1]? = σ[q.1]? ∧ ρ1[q.1]? = some (some (.fr q.2))) → ∃ xs, SqL K H1 a xs ∧ RepL K B1 xs ib.ds
theorem wpm_map {α : Type} {g : Sl → Option α} {ρ : Sl} {Q : α → Sl → Prop} {E : Nat → Sl → Prop} (q : wpm (fun ρ => (g ρ).map fun a => Out.ok a ρ) ρ Q E) : ∃ a, g ρ = some a ∧ Q a ρ := by
  unfold wpm at q
  cases e : g ρ with
  | none =>
    simp only [e, Option.map_none] at q
  | some a =>
    simp only [e, Option.map_some] at q
    exact ⟨a, rfl, q⟩
theorem lsAt_of {K : PySem.W.Frag} {F B H : Hp} {σ : L2.St} {ρ : Sl} {v : V} {o : Op} {ib : Itb} (R : Rel K F B H σ ρ) (ov : OpV K B σ v o) (h : lsOf ρ o = some ib) : ∃ a xs, v = .ref a ∧ SqL K H a xs ∧ RepL K B xs ib.ds ∧ LsAt K B σ a ib := by
  have shr : ∀ {d : D} {l : List D}, Rep K B v d → (d = .lst l ∨ ∃ ns, d = .scr ns ∧ l = ns.map .int) → ∃ a xs, v = .ref a ∧ SqL K H a xs ∧ RepL K B xs l ∧ LsAt K B σ a ⟨l, []⟩ := fun {d l} r h => by
    rcases h with rfl | ⟨ns, rfl, rfl⟩
    · cases r with
      | @lst a xs _ hB rl => exact ⟨a, xs, rfl, SqL.of (R.exB _ _ hB), rl, fun F1 B1 H1 σ1 ρ1 R1 sm _ => ⟨xs, SqL.of (R1.exB _ _ (sm _ _ hB)), rl.mono sm _ _⟩⟩
    · cases r with
      | @scr a _ hB => exact ⟨a, _, rfl, R.exB.seq hB, RepL.ints _, fun F1 B1 H1 σ1 ρ1 R1 sm _ => ⟨_, R1.exB.seq (sm.seq hB), RepL.ints _⟩⟩
  cases ov with
  | @val d r =>
    unfold lsOf at h
    split at h
    · rename_i e
      cases e
      cases h
      exact shr r (.inl rfl)
    · rename_i e
      cases e
      cases h
      exact shr r (.inr ⟨_, rfl, rfl⟩)
    · rename_i e
      cases e
    · cases h
  | @slot i hs =>
    have h : (match ρ[i]? with
      | some (some (.ow (.lst l))) => some (⟨l, [(i, l)]⟩ : Itb)
      | some (some (.sh (.lst l))) => some ⟨l, []⟩
      | some (some (.sh (.scr l))) => some ⟨l.map .int, []⟩
      | _ => none) = some ib := h
    split at h
    · rename_i l e
      cases h
      have s := R.slot i _ e
      rw [hs] at s
      cases s with
      | @fr a o xs _ hF hB hH hO r =>
        cases hO
        refine ⟨a, xs, rfl, SqL.of hH, r, fun F1 B1 H1 σ1 ρ1 R1 sm g => ?_⟩
        obtain ⟨g1, g2⟩ := g (i, l) List.mem_cons_self
        have s1 := R1.slot i _ g2
        have g1 : σ1[i]? = σ[i]? := g1
        rw [g1, hs] at s1
        cases s1 with
        | fr hF hB hH hO r =>
          cases hO
          exact ⟨_, SqL.of hH, r⟩
    · rename_i l e
      cases h
      have s := R.slot i _ e
      rw [hs] at s
      cases s with
      | sh r => exact shr r (.inl rfl)
    · rename_i l e
      cases h
      have s := R.slot i _ e
      rw [hs] at s
      cases s with
      | sh r => exact shr r (.inr ⟨_, rfl, rfl⟩)
    · cases h
def liftI {α : Type} (a : M α) (g : α → Sl → Option Itb) : M Itb := bnd a fun o ρ => (g o ρ).map fun ib => .ok ib ρ
def jLs (o : Op) (ρ : Sl) : Option Itb := lsOf ρ o
def jTp (o : Op) (ρ : Sl) : Option Itb := match get ρ o with
  | some (.tup l) => some ⟨l, []⟩
  | _ => none
def RngOk (j : Int) : Prop := -(2 ^ 62) ≤ j ∧ j < 2 ^ 62
instance (j : Int) : Decidable (RngOk j) := by unfold RngOk; infer_instance
def rngD (lo : Int) (n : Nat) : List D := (List.range n).map fun k => .int (lo + (k : Nat))
def jR1 (os : List Op) (ρ : Sl) : Option Itb := match gets ρ os with
  | some [.int j] => if RngOk j then some ⟨rngD 0 j.toNat, []⟩ else none
  | _ => none
def jR2 (os : List Op) (ρ : Sl) : Option Itb := match gets ρ os with
  | some [.int i, .int j] => if RngOk i ∧ RngOk j then some ⟨rngD i (j - i).toNat, []⟩ else none
  | _ => none
def jRev (os : List Op) (ρ : Sl) : Option Itb := match os with
  | [o] => (lsOf ρ o).map fun ib => ⟨ib.ds.reverse, ib.pk⟩
  | _ => none
def zipD : List D → List D → List D
  | x :: xs, y :: ys => .tup [x, y] :: zipD xs ys
  | _, _ => []
def enumD : Nat → List D → List D
  | i, x :: xs => .tup [.int (i : Nat), x] :: enumD (i + 1) xs
  | _, [] => []
def jZp (os : List Op) (ρ : Sl) : Option Itb := match os with
  | [o, p] => (lsOf ρ o).bind fun x => (lsOf ρ p).map fun y => ⟨zipD x.ds y.ds, x.pk ++ y.pk⟩
  | _ => none
def jEn (os : List Op) (ρ : Sl) : Option Itb := match os with
  | [o] => (lsOf ρ o).map fun ib => ⟨enumD 0 ib.ds, ib.pk⟩
  | _ => none
def iLs (a : M Op) : M Itb := liftI a jLs
def iTp (a : M Op) : M Itb := liftI a jTp
def iR1 (as : M (List Op)) : M Itb := liftI as jR1
def iR2 (as : M (List Op)) : M Itb := liftI as jR2
def iRv (as : M (List Op)) : M Itb := liftI as jRev
def iZp (as : M (List Op)) : M Itb := liftI as jZp
def iEn (as : M (List Op)) : M Itb := liftI as jEn
section
variable {cv : Nat → Value} {X : Cx} {W : WX} {e a b tg : Expr} {te ta : TE} {ts : TA} {f : M Op} {fs : M (List Op)} {pos p : Pos}
theorem sni_list (h : SndO cv X W e te f) : SndI cv X W tg e (iList X.K te) (iLs f) := by
  refine ⟨pi_list h.pe, fun F B H σ ρ Q R q => ?_⟩
  refine h.ad F B H σ ρ _ R (wpm_mono (wpm_bnd q) (fun o ρ1 q v B1 H1 R1 sm1 ov => ?_) fun _ _ q => q)
  obtain ⟨ib, e1, q⟩ := wpm_map q
  obtain ⟨a, xs, rfl, hq, rl, at_⟩ := lsAt_of R1 ov e1
  refine ⟨a, rfl, ⟨xs, hq⟩, q _ B1 H1 R1 sm1 fun F2 B2 H2 σ2 ρ2 R2 sm2 g i => ?_⟩
  obtain ⟨ys, h1, r1⟩ := at_ F2 B2 H2 σ2 ρ2 R2 sm2 g
  refine ⟨fun d hd => ?_, fun hl => ⟨ys, h1, by rw [r1.length]; exact hl⟩⟩
  obtain ⟨y, hy, ry⟩ := r1.get hd
  refine ⟨⟨ys, y, h1, hy⟩, fun x H' hyd => ?_⟩
  obtain ⟨rfl, hx⟩ := hyd
  have := hx ys h1
  rw [hy] at this
  cases this
  exact ⟨B2, R2, Same.refl _, ry⟩
theorem sni_tup (h : SndO cv X W e te f) : SndI cv X W tg e (iTup X.K te) (iTp f) := by
  refine ⟨pi_tup h.pe, fun F B H σ ρ Q R q => ?_⟩
  refine h.ad F B H σ ρ _ R (wpm_mono (wpm_bnd q) (fun o ρ1 q v B1 H1 R1 sm1 ov => ?_) fun _ _ q => q)
  obtain ⟨ib, e1, q⟩ := wpm_map q
  unfold jTp at e1
  split at e1
  · rename_i l e2
    cases e1
    cases ov.rep R1 e2 with
    | sh r =>
      cases r with
      | @tup a xs _ hB rl =>
        refine ⟨a, rfl, ⟨xs, (hB.mono fun a xs q => R1.exB a _ q).sq⟩, q _ B1 H1 R1 sm1 fun F2 B2 H2 σ2 ρ2 R2 sm2 g i => ?_⟩
        have h2 : SqT X.K H2 a xs := (hB.mono fun a xs q => R2.exB a _ (sm2 _ _ q)).sq
        refine ⟨fun d hd => ?_, fun hl => ⟨xs, h2, by rw [rl.length]; exact hl⟩⟩
        obtain ⟨y, hy, ry⟩ := rl.get hd
        refine ⟨⟨xs, y, h2, hy⟩, fun x H' hyd => ?_⟩
        obtain ⟨rfl, hx⟩ := hyd
        have := hx xs h2
        rw [hy] at this
        cases this
        exact ⟨B2, R2, Same.refl _, ry.mono sm2 _ _⟩
    | @own a o xs c _ hB hH hO r e => cases c <;> cases e
  · cases e1
theorem itr_ok {K : PySem.W.Frag} {B : Hp} {σ : L2.St} {lo : Int} {n : Nat} : ItOk K B σ (Itr lo n) ⟨rngD lo n, []⟩ := fun F2 B2 H2 σ2 ρ2 R2 sm2 g i => by
  have hl : (rngD lo n).length = n := by unfold rngD; rw [List.length_map, List.length_range]
  refine ⟨fun d hd => ?_, fun h => ?_⟩
  · obtain ⟨hlt, e⟩ := List.getElem?_eq_some_iff.mp hd
    have hi : i < n := hl ▸ hlt
    refine ⟨hi, fun x H' hy => ?_⟩
    obtain ⟨rfl, rfl⟩ := hy
    have hd : (rngD lo n)[i]? = some d := hd
    unfold rngD at hd
    rw [List.getElem?_map, List.getElem?_range hi] at hd
    cases hd
    exact ⟨B2, R2, Same.refl _, .int _⟩
  · show n ≤ i
    have h' : (rngD lo n).length ≤ i := h
    rw [hl] at h'
    exact h'
theorem sni_r1 (hg : Gl X "range") (hm : X.mg "range" = none) (ha : SndA cv X W [a] ts fs) (hs : starEach [a] X.env = [(false, eval a X.env)] := by rfl) : SndI cv X W tg (.Call (.Name "range" p) [a] [] pos) (iRng1 ts) (iR1 fs) := by
  refine ⟨pi_range1 hg hm ha.pa hs, fun F B H σ ρ Q R q => ?_⟩
  refine ha.ad F B H σ ρ _ R (wpm_mono (wpm_bnd q) (fun o ρ1 q v B1 H1 R1 sm1 ov => ?_) fun _ _ q => q)
  obtain ⟨ib, e1, q⟩ := wpm_map q
  unfold jR1 at e1
  split at e1
  · rename_i j e2
    split at e1
    · rename_i hj
      cases e1
      obtain ⟨x, rfl, r⟩ := (ov.rep R1 e2).one
      cases r.int
      exact ⟨j, rfl, hj.1, hj.2, q _ B1 H1 R1 sm1 itr_ok⟩
    · cases e1
  · cases e1
theorem OpVs.one {K : PySem.W.Frag} {B : Hp} {σ : L2.St} {vs : List V} {o : Op} (h : OpVs K B σ vs [o]) : ∃ v, vs = [v] ∧ OpV K B σ v o := by
  cases h with
  | cons h t =>
    cases t
    exact ⟨_, rfl, h⟩
theorem OpVs.two {K : PySem.W.Frag} {B : Hp} {σ : L2.St} {vs : List V} {o p : Op} (h : OpVs K B σ vs [o, p]) : ∃ v w, vs = [v, w] ∧ OpV K B σ v o ∧ OpV K B σ w p := by
  cases h with
  | cons h t =>
    obtain ⟨w, rfl, r⟩ := t.one
    exact ⟨_, w, rfl, h, r⟩
end
end Sim

namespace Sim
open PySem PySem.Spec PyProof.Rows L2

/-! ### for -/
/-- behind a turn's body: go on with k -/
def turnK (k : SM) : Option SO → Option SO
  | some (.nx ρ) => k ρ
  | some (.ct ρ) => k ρ
  | some (.bk ρ) => some (.nx ρ)
  | o => o
def forL (g : SV → Sl → Option Sl) (body : SM) : List D → SM
  | [] => sNx
  | d :: ds => fun ρ => (g (.sh d) ρ).bind fun ρ1 => turnK (forL g body ds) (body ρ1)
def sFor (it : M Itb) (g : SV → Sl → Option Sl) (body : SM) : SM := sEx it fun ib => if ib.pk = [] then forL g body ib.ds else fun _ => none
section
variable {cv : Nat → Value} {X : Cx} {W : WX} {e a b c tg iter : Expr} {st : Stmt} {sts as bs : List Stmt} {te ta tb : TE} {tc : TT} {t u : TS} {f : M SV} {m n : SM} {w w' : List Nat} {pos p p2 : Pos}
theorem sns_for {wi : TI} {tgt : TG} {g : SV → Sl → Option Sl} {it : M Itb} (hp : PassesOwn (model X.prog X.w) X.A X.env X.xe) (hc : X.calm = true) (hi : SndI cv X W tg iter wi it) (hg : SndG X tg tgt g w) (hb : SndSs cv X W sts t m w')
    (hs : ∀ x, foldedSetIterable iter X.env x = pure x := by intro _; rfl) : SndS cv X W (.For tg iter sts [] pos) (tFor wi tgt t) (sFor it g m) (w ++ w') := by
  refine ⟨ps_for hp hc hi.pi hg.pg hb.ps hs, fun F B H σ ρ D R q => ?_⟩
  refine hi.ad F B H σ ρ _ R (wpm_mono (ws_ex q) (fun ib ρ1 q J B1 H1 R1 sm ok => ?_) fun _ _ q => q)
  by_cases hpk : ib.pk = []
  · rw [if_pos hpk] at q
    refine ⟨fun i k σ2 H2 => k = ib.ds.length - i ∧ i ≤ ib.ds.length ∧ ∃ ρ2 B2, Rel X.K F B2 H2 σ2 ρ2 ∧ Same B1 B2 ∧ Agr (w ++ w') σ σ2 ∧ (wsOf cv W X.K F B σ (w ++ w') D).at (forL g m (ib.ds.drop i) ρ2),
      ⟨ib.ds.length, by simp, Nat.zero_le _, ρ1, B1, R1, Same.refl _, Agr.refl, by simpa using q⟩, ?_⟩
    rintro i k σ2 H2 ⟨rfl, hle, ρ2, B2, R2, sm2, ag2, q2⟩
    have ok2 := ok F B2 H2 σ2 ρ2 R2 sm2 (by rw [hpk]; exact fun q hq => nomatch hq) i
    by_cases hlt : i < ib.ds.length
    · obtain ⟨go, yl⟩ := ok2.1 _ (List.getElem?_eq_getElem hlt)
      rw [List.drop_eq_getElem_cons hlt] at q2
      refine .inr ⟨go, fun σ' H' => ∃ ρ' B', Rel X.K F B' H' σ' ρ' ∧ Same B1 B' ∧ Agr (w ++ w') σ σ' ∧ (wsOf cv W X.K F B σ (w ++ w') D).at (forL g m (ib.ds.drop (i + 1)) ρ'), fun σ' H' ⟨ρ', B', h1, h2, h3, h4⟩ => ⟨_, by omega, rfl, hlt, ρ', B', h1, h2, h3, h4⟩, fun x H' hy => ?_⟩
      obtain ⟨B3, R3, sm3, rep⟩ := yl x H' hy
      have q2 : (wsOf cv W X.K F B σ (w ++ w') D).at ((g (.sh ib.ds[i]) ρ2).bind fun ρ1 => turnK (forL g m (ib.ds.drop (i + 1))) (m ρ1)) := q2
      cases e1 : g (.sh ib.ds[i]) ρ2 with
      | none =>
        rw [e1] at q2
        exact q2.elim
      | some ρ3 =>
        rw [e1] at q2
        have q2 : (wsOf cv W X.K F B σ (w ++ w') D).at (turnK (forL g m (ib.ds.drop (i + 1))) (m ρ3)) := q2
        refine hg.ad F B3 H' σ2 ρ2 x _ ρ3 _ R3 (.sh rep) e1 fun σ3 R4 ag3 _ => ?_
        refine hb.ad F B3 H' σ3 ρ3 _ R4 ?_
        have agA : ∀ {σ4 : L2.St}, Agr w' σ3 σ4 → Agr (w ++ w') σ σ4 := fun a4 => ((ag2.tr (ag3.mono fun j h => List.mem_append_left _ h)).tr (a4.mono fun j h => List.mem_append_right _ h))
        have smA : ∀ {B4 : Hp}, Same B3 B4 → Same B1 B4 := fun s4 => (sm2.trans sm3).trans s4
        cases e2 : m ρ3 with
        | none =>
          rw [e2] at q2
          exact q2.elim
        | some o =>
          rw [e2] at q2
          cases o with
          | nx ρ4 => exact fun σ4 B4 H4 R5 s4 a4 => ⟨ρ4, B4, R5, smA s4, agA a4, q2⟩
          | ct ρ4 => exact fun σ4 B4 H4 R5 s4 a4 => ⟨ρ4, B4, R5, smA s4, agA a4, q2⟩
          | bk ρ4 => exact fun σ4 B4 H4 R5 s4 a4 => q2 σ4 B4 H4 R5 (sm.trans (smA s4)) (agA a4)
          | rt sv ρ4 => exact fun v σ4 B4 H4 R5 s4 a4 rv => q2 v σ4 B4 H4 R5 (sm.trans (smA s4)) (agA a4) rv
          | ex cx ρ4 => exact fun σ4 B4 H4 R5 s4 a4 => q2 σ4 B4 H4 R5 (sm.trans (smA s4)) (agA a4)
    · have ei : i = ib.ds.length := by omega
      refine .inl ⟨ok2.2 (by omega), ?_⟩
      rw [ei, List.drop_length] at q2
      exact q2 σ2 B2 H2 R2 (sm.trans sm2) ag2
  · rw [if_neg hpk] at q
    exact q.elim

/-! ### while -/
def loopN (c : M Bool) (body : SM) : Nat → SM
  | 0 => fun _ => none
  | n + 1 => sEx c fun b => if b = true then fun ρ => turnK (loopN c body n) (body ρ) else sNx
open Classical in
noncomputable def sWhile (c : M Bool) (body : SM) : SM := fun ρ => if h : ∃ n, loopN c body n ρ ≠ none then loopN c body (Classical.choose h) ρ else none
theorem loopN_mono {c : M Bool} {body : SM} : ∀ {n : Nat} {ρ : Sl} {o : SO}, loopN c body n ρ = some o → loopN c body (n + 1) ρ = some o
  | 0, ρ, o, h => by cases h
  | n + 1, ρ, o, h => by
    unfold loopN at h ⊢
    unfold sEx at h ⊢
    cases e : c ρ with
    | none =>
      rw [e] at h
      cases h
    | some r =>
      rw [e] at h
      cases r with
      | ex cx ρ' => exact h
      | ok b ρ' =>
        cases b with
        | false => exact h
        | true =>
          have h : turnK (loopN c body n) (body ρ') = some o := h
          show turnK (loopN c body (n + 1)) (body ρ') = some o
          cases e2 : body ρ' with
          | none =>
            rw [e2] at h
            cases h
          | some s =>
            rw [e2] at h
            cases s with
            | nx ρ2 => exact loopN_mono (n := n) h
            | ct ρ2 => exact loopN_mono (n := n) h
            | bk ρ2 => exact h
            | rt sv ρ2 => exact h
            | ex cx ρ2 => exact h
theorem loopN_le {c : M Bool} {body : SM} {n k : Nat} {ρ : Sl} {o : SO} (h : loopN c body n ρ = some o) : loopN c body (n + k) ρ = some o := by
  induction k with
  | zero => exact h
  | succ k ih => exact loopN_mono ih
theorem sWhile_of {c : M Bool} {body : SM} {n : Nat} {ρ : Sl} {o : SO} (h : loopN c body n ρ = some o) : sWhile c body ρ = some o := by
  have hx : ∃ n, loopN c body n ρ ≠ none := ⟨n, by rw [h]; exact fun z => nomatch z⟩
  unfold sWhile
  rw [dif_pos hx]
  have hc := Classical.choose_spec hx
  generalize Classical.choose hx = k at hc
  cases e : loopN c body k ρ with
  | none => exact (hc e).elim
  | some o' =>
    have h1 := loopN_le (k := k) h
    have h2 := loopN_le (k := n) e
    rw [Nat.add_comm] at h2
    rw [h1] at h2
    exact h2.symm
theorem sWhile_to {c : M Bool} {body : SM} {ρ : Sl} {o : SO} (h : sWhile c body ρ = some o) : ∃ n, loopN c body n ρ = some o := by
  unfold sWhile at h
  split at h
  · exact ⟨_, h⟩
  · cases h
theorem sWhile_stop {c : M Bool} {body : SM} {ρ ρ' : Sl} (h : c ρ = some (.ok false ρ')) : sWhile c body ρ = some (.nx ρ') := sWhile_of (n := 1) (by
  unfold loopN sEx
  rw [h]
  rfl)
theorem sWhile_step {c : M Bool} {body : SM} {ρ ρ1 ρ2 : Sl} {o : SO} (h : c ρ = some (.ok true ρ1)) (hb : body ρ1 = some (.nx ρ2)) (hw : sWhile c body ρ2 = some o) : sWhile c body ρ = some o := by
  obtain ⟨n, hn⟩ := sWhile_to hw
  refine sWhile_of (n := n + 1) ?_
  unfold loopN sEx
  rw [h]
  show turnK (loopN c body n) (body ρ1) = some o
  rw [hb]
  exact hn
theorem ws_ex2 {α : Type} {K : PySem.W.Frag} {F B B2 : Hp} {σ σ2 : L2.St} {D : Ends} {f : M α} {k : α → SM} {ρ : Sl} (sm : Same B B2) (ag : Agr w σ σ2) (q : (wsOf cv W K F B σ w D).at (sEx f k ρ)) :
    wpm f ρ (fun a ρ' => (wsOf cv W K F B σ w D).at (k a ρ')) fun c ρ' => ∀ B' H', Rel K F B' H' σ2 ρ' → Same B2 B' → W (cv c) none σ2 H' := by
  unfold sEx at q
  unfold wpm
  cases e : f ρ with
  | none =>
    rw [e] at q
    exact q
  | some o =>
    rw [e] at q
    cases o with
    | ok a ρ' => exact q
    | ex c ρ' => exact fun B' H' R s => q σ2 B' H' R (sm.trans s) ag
theorem sns_while {f' : M Bool} (hp : PassesOwn (model X.prog X.w) X.A X.env X.xe) (hc : SndB cv X W c tc f') (hb : SndSs cv X W sts t m w) : SndS cv X W (.While c sts [] pos) (tWhile tc t) (sWhile f' m) w := by
  refine ⟨ps_while hp hc.pt hb.ps, fun F B H σ ρ D R q => ?_⟩
  cases e0 : sWhile f' m ρ with
  | none =>
    rw [e0] at q
    exact q.elim
  | some o0 =>
    rw [e0] at q
    obtain ⟨n, hn⟩ := sWhile_to e0
    refine ⟨fun k σ2 H2 => ∃ ρ2 B2, Rel X.K F B2 H2 σ2 ρ2 ∧ Same B B2 ∧ Agr w σ σ2 ∧ (wsOf cv W X.K F B σ w D).at (loopN f' m k ρ2), ⟨n, ρ, B, R, Same.refl _, Agr.refl, by rw [hn]; exact q⟩, ?_⟩
    rintro k σ2 H2 ⟨ρ2, B2, R2, sm2, ag2, q2⟩
    cases k with
    | zero => exact q2.elim
    | succ k =>
      unfold loopN at q2
      refine hc.ad F B2 H2 σ2 ρ2 _ R2 (wpm_mono (ws_ex2 sm2 ag2 q2) (fun b ρ3 q3 b' B3 H3 R3 sm3 e1 => ?_) fun _ _ q => q)
      subst e1
      cases b' with
      | false => exact q3 σ2 B3 H3 R3 (sm2.trans sm3) ag2
      | true =>
        have q3 : (wsOf cv W X.K F B σ w D).at (turnK (loopN f' m k) (m ρ3)) := q3
        refine ⟨fun σ' H' => ∃ ρ' B', Rel X.K F B' H' σ' ρ' ∧ Same B B' ∧ Agr w σ σ' ∧ (wsOf cv W X.K F B σ w D).at (loopN f' m k ρ'), fun σ' H' ⟨ρ', B', h1, h2, h3, h4⟩ => ⟨k, Nat.lt_succ_self _, ρ', B', h1, h2, h3, h4⟩, ?_⟩
        refine hb.ad F B3 H3 σ2 ρ3 _ R3 ?_
        have smA : ∀ {B4 : Hp}, Same B3 B4 → Same B B4 := fun s4 => (sm2.trans sm3).trans s4
        cases e2 : m ρ3 with
        | none =>
          rw [e2] at q3
          exact q3.elim
        | some o =>
          rw [e2] at q3
          cases o with
          | bk ρ4 => exact fun σ4 B4 H4 R5 s4 a4 => q3 σ4 B4 H4 R5 (smA s4) (ag2.tr a4)
          | rt sv ρ4 => exact fun v σ4 B4 H4 R5 s4 a4 rv => q3 v σ4 B4 H4 R5 (smA s4) (ag2.tr a4) rv
          | ex cx ρ4 => exact fun σ4 B4 H4 R5 s4 a4 => q3 σ4 B4 H4 R5 (smA s4) (ag2.tr a4)
          | nx ρ4 => exact fun σ4 B4 H4 R5 s4 a4 => ⟨ρ4, B4, R5, smA s4, ag2.tr a4, q3⟩
          | ct ρ4 => exact fun σ4 B4 H4 R5 s4 a4 => ⟨ρ4, B4, R5, smA s4, ag2.tr a4, q3⟩
end
end Sim

namespace Sim
open PySem PySem.Spec PyProof.Rows L2

/-! ### a list that a slot owns is changed -/
def mtK (i : Nat) (g : List D → List D → Option (D × List D)) (os : List Op) : M SV := fun ρ => match ρ[i]? with
  | some (some (.ow (.lst l))) => match vals os with
    | some ds => match g l ds with
      | some (d, l') => some (.ok (.sh d) (ρ.set i (some (.fr l'))))
      | none => none
    | none => none
  | _ => none
def vMt (i : Nat) (g : List D → List D → Option (D × List D)) (as : M (List Op)) : M SV := fun ρ => if isFr ρ i = true then bnd as (mtK i g) ρ else none
def gApp (l : List D) : List D → Option (D × List D)
  | [d] => if l.length < 1000000 then some (.non, l ++ [d]) else none
  | _ => none
def gPop (l : List D) : List D → Option (D × List D)
  | [] => l[l.length - 1]?.map fun d => (d, l.dropLast)
  | _ => none
def gRvs (l : List D) : List D → Option (D × List D)
  | [] => some (.non, l.reverse)
  | _ => none
def gExt (l : List D) : List D → Option (D × List D)
  | [.lst m] => if l.length + m.length ≤ 1000000 then some (.non, l ++ m) else none
  | _ => none
section
variable {K : PySem.W.Frag}
theorem RepL.dropLast {H : Hp} {vs : List V} {ds : List D} (r : RepL K H vs ds) : RepL K H vs.dropLast ds.dropLast := by
  rw [List.dropLast_eq_take, List.dropLast_eq_take, r.length]
  exact r.take _
end
section
variable {cv : Nat → Value} {X : Cx} {W : WX} {e a b o iter tg : Expr} {es : List Expr} {te ta tb : TE} {ts : TA} {f : M SV} {fa : M Op} {fs : M (List Op)} {pos apos p p2 : Pos}
/-- x[k] = e -/
def stK (i : Nat) (o p : Op) : SM := fun ρ => match o, p, ρ[i]? with
  | .val d, .val (.int k), some (some (.ow (.lst l))) => (ixN l.length k).map fun j => .nx (ρ.set i (some (.fr (l.set j d))))
  | _, _, _ => none
def frGuard (i : Nat) (m : SM) : SM := fun ρ => if isFr ρ i = true then m ρ else none
def sSetIx (i : Nat) (f k : M Op) : SM := sEx f fun o => frGuard i (sEx k fun p => stK i o p)
/-- raise -/
def sRaise (c : Nat) : SM := fun ρ => some (.ex c ρ)
theorem sns_raise {c : Nat} (hc : X.calm = true) (tk : L2N.Takes X W) (he : L2N.PMk X e (fun _ H Q => Q (cv c) none H)) : SndS cv X W (.Raise (some e) none pos) (fun _ σ H => W (cv c) none σ H) (sRaise c) [] :=
  ⟨L2N.ps_raise hc tk he, fun F B H σ ρ D R q => q σ B H R (Same.refl _) Agr.refl⟩
/-- xs[::-1] -/
def gRv : D → Option SV
  | .lst l => some (.fr l.reverse)
  | _ => none
def vRevL (a : M Op) : M SV := vOp1 gRv a
end
section
variable {cv : Nat → Value} {X : Cx} {W : WX} {e elt iter tg : Expr} {te : TE} {tt : TT} {f : M SV} {fa : M Op} {c : M Bool} {pos p p2 : Pos}

/-! ### comprehensions -/
def wipeS (ρ : Sl) : List Nat → Sl
  | [] => ρ
  | v :: vs => (wipeS ρ vs).set v none
def noFr (ρ : Sl) (vs : List Nat) : Prop := ∀ v ∈ vs, ∀ c, ρ[v]? ≠ some (some (.ow c))
def restS (ρ0 ρ : Sl) : List Nat → Sl
  | [] => ρ
  | v :: vs => (restS ρ0 ρ vs).set v (ρ0[v]?.getD none)
def pkOk (pk : List (Nat × List D)) (ρ : Sl) : Prop := ∀ q ∈ pk, ρ[q.1]? = some (some (.fr q.2))
open Classical in
noncomputable def lcL (vs : List Nat) (pk : List (Nat × List D)) (g : SV → Sl → Option Sl) (c : M Bool) (elt : M SV) : List D → List D → Sl → Option (List D × Sl)
  | [], acc, ρ => if pkOk pk (wipeS ρ vs) then some (acc, ρ) else none
  | d :: ds, acc, ρ => if pkOk pk (wipeS ρ vs) ∧ acc.length < 1000000 then
      match g (.sh d) (wipeS ρ vs) with
      | none => none
      | some ρ1 => match c ρ1 with
        | some (.ok true ρ2) => match elt ρ2 with
          | some (.ok sv ρ3) => lcL vs pk g c elt ds (acc ++ [sv.d]) ρ3
          | _ => none
        | some (.ok false ρ2) => lcL vs pk g c elt ds acc ρ2
        | _ => none
    else none
open Classical in
noncomputable def vLc (vs : List Nat) (it : M Itb) (g : SV → Sl → Option Sl) (c : M Bool) (elt : M SV) : M SV := bnd it fun ib ρ =>
  if noFr ρ vs ∧ (∀ q ∈ ib.pk, q.1 ∉ vs) ∧ pkOk ib.pk ρ then (lcL vs ib.pk g c elt ib.ds [] ρ).map fun r => .ok (.fr r.1) (restS ρ r.2 vs) else none
theorem wipeS_length (ρ : Sl) : ∀ vs : List Nat, (wipeS ρ vs).length = ρ.length
  | [] => rfl
  | v :: vs => by unfold wipeS; rw [List.length_set, wipeS_length ρ vs]
theorem restS_length (ρ0 ρ : Sl) : ∀ vs : List Nat, (restS ρ0 ρ vs).length = ρ.length
  | [] => rfl
  | v :: vs => by unfold restS; rw [List.length_set, restS_length ρ0 ρ vs]
theorem wipeS_some {ρ : Sl} {i : Nat} {x : SV} : ∀ {vs : List Nat}, (wipeS ρ vs)[i]? = some (some x) → ρ[i]? = some (some x) ∧ i ∉ vs
  | [], h => ⟨h, by simp⟩
  | v :: vs, h => by
    unfold wipeS at h
    by_cases hi : v = i
    · subst hi
      by_cases hv : v < (wipeS ρ vs).length
      · rw [List.getElem?_set_self hv] at h
        cases h
      · rw [List.getElem?_eq_none (by simpa using hv)] at h
        cases h
    · rw [List.getElem?_set_ne hi] at h
      obtain ⟨h1, h2⟩ := wipeS_some h
      refine ⟨h1, fun z => ?_⟩
      rcases List.mem_cons.mp z with z | z
      · exact hi z.symm
      · exact h2 z
theorem restS_some {ρ0 ρ : Sl} {i : Nat} {x : SV} : ∀ {vs : List Nat}, (restS ρ0 ρ vs)[i]? = some (some x) → (ρ[i]? = some (some x) ∧ i ∉ vs) ∨ (ρ0[i]? = some (some x) ∧ i ∈ vs)
  | [], h => .inl ⟨h, by simp⟩
  | v :: vs, h => by
    unfold restS at h
    by_cases hi : v = i
    · subst hi
      by_cases hv : v < (restS ρ0 ρ vs).length
      · rw [List.getElem?_set_self hv] at h
        refine .inr ⟨?_, List.mem_cons_self⟩
        cases e : ρ0[v]? with
        | none =>
          rw [e] at h
          cases h
        | some y =>
          rw [e] at h
          exact h
      · rw [List.getElem?_eq_none (by simpa using hv)] at h
        cases h
    · rw [List.getElem?_set_ne hi] at h
      rcases restS_some h with ⟨h1, h2⟩ | ⟨h1, h2⟩
      · refine .inl ⟨h1, fun z => ?_⟩
        rcases List.mem_cons.mp z with z | z
        · exact hi z.symm
        · exact h2 z
      · exact .inr ⟨h1, List.mem_cons_of_mem _ h2⟩
theorem Rel.wipe {K : PySem.W.Frag} {F B H : Hp} {σ : L2.St} {ρ : Sl} (R : Rel K F B H σ ρ) (vs : List Nat) : Rel K F B H (L2.wipe σ vs) (wipeS ρ vs) := by
  refine ⟨R.exB, R.exF, R.dis, by rw [wipeS_length, wipe_length]; exact R.len, fun i sv h => ?_, fun i j a h1 h2 => ?_, R.tb⟩
  · obtain ⟨h1, h2⟩ := wipeS_some h
    rw [wipe_out h2]
    exact R.slot i sv h1
  · obtain ⟨⟨l1, g1⟩, k1⟩ := h1
    obtain ⟨⟨l2, g2⟩, k2⟩ := h2
    obtain ⟨e1, n1⟩ := wipeS_some g1
    obtain ⟨e2, n2⟩ := wipeS_some g2
    rw [wipe_out n1] at k1
    rw [wipe_out n2] at k2
    exact R.sep i j a ⟨⟨l1, e1⟩, k1⟩ ⟨⟨l2, e2⟩, k2⟩
theorem wipe_eq {σ σ' : L2.St} : ∀ {vs : List Nat}, σ'.length = σ.length → Agr vs σ σ' → L2.wipe σ' vs = L2.wipe σ vs := fun {vs} hl ag => by
  refine List.ext_getElem? fun j => ?_
  by_cases hj : j ∈ vs
  · have key : ∀ (τ : L2.St) (us : List Nat), j ∈ us → (L2.wipe τ us)[j]? = if j < τ.length then some none else none := fun τ us => by
      induction us with
      | nil => exact fun z => nomatch z
      | cons u us ih =>
        intro hm
        unfold L2.wipe
        by_cases e : u = j
        · subst e
          by_cases hv : u < τ.length
          · rw [if_pos hv, List.getElem?_set_self (by rw [wipe_length]; exact hv)]
          · rw [if_neg hv]
            exact List.getElem?_eq_none (by rw [List.length_set, wipe_length]; omega)
        · rw [List.getElem?_set_ne e]
          exact ih ((List.mem_cons.mp hm).resolve_left fun z => e z.symm)
    rw [key σ' vs hj, key σ vs hj, hl]
  · rw [wipe_out hj, wipe_out hj]
    exact ag j hj
theorem Rel.grow {K : PySem.W.Frag} {F B H : Hp} {σ : L2.St} {ρ : Sl} {d : Addr} {xs ys : List V} (R : Rel K (upd F d (.lst xs)) B H σ ρ) : Rel K (upd F d (.lst ys)) B (upd H d (.lst ys)) σ ρ := by
  have hB : B d = none := R.dis d _ upd_same
  have hd : H d = some (.lst xs) := R.exF d _ upd_same
  have pl : ∀ u, H d = some u → PlainO u := fun u e => by rw [hd] at e; cases e; exact plain_lst
  refine ⟨fun a o e => ?_, fun a o e => ?_, fun a o e => ?_, R.len, fun i sv h => ?_, R.sep, (R.tb.put pl).both R.tb.nB fun p hp => ?_⟩
  rotate_left 4
  · have z := R.tb.ne hd (fun _ z => by cases z) hp
    have := R.tb.nF p hp
    rw [upd_ne z] at this ⊢
    exact this
  · rw [upd_ne fun z => by rw [z, hB] at e; cases e]
    exact R.exB _ _ e
  · by_cases z : a = d
    · subst z
      rw [upd_same] at e ⊢
      exact e
    · rw [upd_ne z] at e ⊢
      refine R.exF a o ?_
      rw [upd_ne z]
      exact e
  · by_cases z : a = d
    · rw [z]
      exact hB
    · rw [upd_ne z] at e
      refine R.dis a o ?_
      rw [upd_ne z]
      exact e
  · have s := R.slot i sv h
    generalize hg : σ[i]? = w at s
    cases s with
    | sh r => exact .sh r
    | @fr a o' xs' ds hF hB' hH hO r =>
      have z : a ≠ d := fun z => by
        rw [z, upd_same] at hF
        cases hF
      refine .fr ?_ hB' ?_ hO r
      · rw [upd_ne z] at hF ⊢
        exact hF
      · rw [upd_ne z]
        exact hH
theorem Rel.addF {K : PySem.W.Frag} {F B H : Hp} {σ : L2.St} {ρ : Sl} {d : Addr} {xs : List V} (R : Rel K F B H σ ρ) (hd : H d = none) : Rel K (upd F d (.lst xs)) B (upd H d (.lst xs)) σ ρ := by
  have R1 := R.new (o := .lst xs) hd
  refine ⟨R1.exB, fun a o e => ?_, fun a o e => ?_, R.len, fun i sv h => ?_, R.sep, R1.tb.toF upd_same fun _ z => by cases z⟩
  · by_cases z : a = d
    · subst z
      rw [upd_same] at e ⊢
      exact e
    · rw [upd_ne z] at e
      exact R1.exF _ _ e
  · by_cases z : a = d
    · rw [z]
      exact R.exB.free hd
    · rw [upd_ne z] at e
      exact R.dis a o e
  · have s := R.slot i sv h
    generalize hg : σ[i]? = w at s
    cases s with
    | sh r => exact .sh r
    | @fr a o' xs' ds hF hB' hH hO r =>
      have z : a ≠ d := fun z => by
        rw [z, hd] at hH
        cases hH
      refine .fr ?_ hB' ?_ hO r
      · rw [upd_ne z]
        exact hF
      · rw [upd_ne z]
        exact hH
theorem adm_lc {wi : TI} {tgt : TG} {it : M Itb} {g : SV → Sl → Option Sl} {w : List Nat} {vs : List Nat} (hi : AdmI cv W X.K wi it) (hg : AdmG X.K tgt g w) (hw : ∀ j, j ∈ w → j ∈ vs) (hc : Adm cv (fun _ _ _ _ => False) X.K tt c (fun _ _ _ _ _ b b' => b = b'))
    (he : Adm cv (fun _ _ _ _ => False) X.K te f (RV X.K)) : Adm cv W X.K (tLc wi tgt tt te vs) (vLc vs it g c f) (RV X.K) := by
  intro F B H σ ρ Q R q
  refine hi F B H σ ρ _ R (wpm_mono (wpm_bnd q) (fun ib ρ1 q J B1 H1 R1 sm1 ok => ?_) fun _ _ q => q)
  unfold wpm at q
  by_cases hcd : noFr ρ1 vs ∧ (∀ q ∈ ib.pk, q.1 ∉ vs) ∧ pkOk ib.pk ρ1
  · simp only [if_pos hcd] at q
    obtain ⟨nf, npk, pk1⟩ := hcd
    cases eL : lcL vs ib.pk g c f ib.ds [] ρ1 with
    | none =>
      simp only [eL, Option.map_none] at q
    | some res =>
      simp only [eL, Option.map_some] at q
      intro Da hD
      refine ⟨fun i k H2 => k = ib.ds.length - i ∧ i ≤ ib.ds.length ∧ ∃ ρ2 B2 accV acc, Rel X.K (upd F Da (.lst accV)) B2 H2 (L2.wipe σ vs) (wipeS ρ2 vs) ∧ Same B1 B2 ∧ RepL X.K B2 accV acc ∧ lcL vs ib.pk g c f (ib.ds.drop i) acc ρ2 = some res,
        ⟨ib.ds.length, by simp, Nat.zero_le _, ρ1, B1, [], [], (R1.wipe vs).addF hD, Same.refl _, .nil, by simpa using eL⟩, ?_⟩
      rintro i k H2 ⟨rfl, hle, ρ2, B2, accV, acc, R2, sm2, rl, e2⟩
      by_cases hlt : i < ib.ds.length
      · rw [List.drop_eq_getElem_cons hlt] at e2
        unfold lcL at e2
        by_cases hpk : pkOk ib.pk (wipeS ρ2 vs) ∧ acc.length < 1000000
        · rw [if_pos hpk] at e2
          have ok2 := ok _ B2 H2 _ _ R2 sm2 (fun q hq => ⟨wipe_out (npk q hq), hpk.1 q hq⟩) i
          obtain ⟨go, yl⟩ := ok2.1 _ (List.getElem?_eq_getElem hlt)
          refine .inr ⟨go, fun H' => ∃ ρ' B' accV' acc', Rel X.K (upd F Da (.lst accV')) B' H' (L2.wipe σ vs) (wipeS ρ' vs) ∧ Same B1 B' ∧ RepL X.K B' accV' acc' ∧ lcL vs ib.pk g c f (ib.ds.drop (i + 1)) acc' ρ' = some res,
            fun H' ⟨ρ', B', accV', acc', h1, h2, h3, h4⟩ => ⟨_, by omega, rfl, hlt, ρ', B', accV', acc', h1, h2, h3, h4⟩, fun x H' hy => ?_⟩
          obtain ⟨B3, R3, sm3, rep⟩ := yl x H' hy
          cases e3 : g (.sh ib.ds[i]) (wipeS ρ2 vs) with
          | none =>
            simp only [e3] at e2
            cases e2
          | some ρ3 =>
            simp only [e3] at e2
            refine hg _ B3 H' _ _ x _ ρ3 _ R3 (.sh rep) e3 fun σ3 R4 ag3 l3 => ?_
            have wp : L2.wipe σ3 vs = L2.wipe σ vs := by
              have h1 := wipe_eq (vs := vs) l3 (ag3.mono hw)
              have h2 : L2.wipe (L2.wipe σ vs) vs = L2.wipe σ vs := wipe_eq (wipe_length σ vs) fun j hj => wipe_out hj
              exact h1.trans h2
            refine ⟨wp, ?_⟩
            have back : ∀ {ρ5 : Sl} {B5 H5 : Hp} {av : List V}, Rel X.K (upd F Da (.lst av)) B5 H5 σ3 ρ5 → Rel X.K (upd F Da (.lst av)) B5 H5 (L2.wipe σ vs) (wipeS ρ5 vs) := fun {ρ5 B5 H5 av} R5 => by
              have h := R5.wipe vs
              rw [wp] at h
              exact h
            refine hc _ B3 H' σ3 ρ3 _ R4 ?_
            unfold wpm
            cases e4 : c ρ3 with
            | none =>
              simp only [e4] at e2
              cases e2
            | some o =>
              cases o with
              | ex cx ρ4 =>
                simp only [e4] at e2
                cases e2
              | ok b ρ4 =>
                intro b' B4 H4 R5 sm4 eb
                subst eb
                cases b' with
                | false =>
                  simp only [e4] at e2
                  exact ⟨ρ4, B4, accV, acc, back R5, (sm2.trans sm3).trans sm4, (rl.mono sm3 _ _).mono sm4 _ _, e2⟩
                | true =>
                  simp only [e4] at e2
                  refine he _ B4 H4 σ3 ρ4 _ R5 ?_
                  unfold wpm
                  cases e5 : f ρ4 with
                  | none =>
                    simp only [e5] at e2
                    cases e2
                  | some o =>
                    cases o with
                    | ex cx ρ5 =>
                      simp only [e5] at e2
                      cases e2
                    | ok sv ρ5 =>
                      intro y B5 H5 R6 sm5 rv
                      simp only [e5] at e2
                      obtain ⟨B6, R7, sm6, ry⟩ := rv.freeze R6
                      have hD5 : H5 Da = some (.lst accV) := R7.exF _ _ upd_same
                      have sm7 := (sm3.trans sm4).trans (sm5.trans sm6)
                      refine ⟨accV, hD5, ?_, ρ5, B6, accV ++ [y], acc ++ [sv.d], (back R7).grow, sm2.trans sm7, (rl.mono sm7 _ _).append (.cons ry .nil), e2⟩
                      rw [rl.length]
                      exact mill_lt hpk.2
        · rw [if_neg hpk] at e2
          cases e2
      · have ei : i = ib.ds.length := by omega
        rw [ei, List.drop_length] at e2
        unfold lcL at e2
        by_cases hpk : pkOk ib.pk (wipeS ρ2 vs)
        · rw [if_pos hpk] at e2
          cases e2
          have ok2 := ok _ B2 H2 _ _ R2 sm2 (fun q hq => ⟨wipe_out (npk q hq), hpk q hq⟩) i
          refine .inl ⟨ok2.2 (by omega), ?_⟩
          have hFD : F Da = none := R1.exF.free hD
          have hBD : B2 Da = none := R2.dis Da _ upd_same
          have ow : ∀ {j a}, Owns σ (restS ρ1 ρ2 vs) j a → Owns (L2.wipe σ vs) (wipeS ρ2 vs) j a := fun {j a} ⟨⟨l, g1⟩, g2⟩ => by
            rcases restS_some g1 with ⟨h1, h2⟩ | ⟨h1, h2⟩
            · refine ⟨⟨l, ?_⟩, by rw [wipe_out h2]; exact g2⟩
              have key : ∀ (us : List Nat), j ∉ us → (wipeS ρ2 us)[j]? = ρ2[j]? := fun us => by
                induction us with
                | nil => exact fun _ => rfl
                | cons u us ih =>
                  intro hm
                  unfold wipeS
                  rw [List.getElem?_set_ne fun z => hm (by rw [← z]; exact List.mem_cons_self)]
                  exact ih fun z => hm (List.mem_cons_of_mem _ z)
              rw [key vs h2]
              exact h1
            · exact (nf j h2 l h1).elim
          refine q (.ref Da) B2 H2 ⟨R2.exB, fun a o e => ?_, fun a o e => ?_, ?_, fun j sv h => ?_, fun j j' a o1 o2 => R2.sep j j' a (ow o1) (ow o2), R2.tb.both R2.tb.nB R.tb.nF⟩ (sm1.trans sm2) ?_
          · refine R2.exF a o ?_
            rw [upd_ne fun z => by rw [z, hFD] at e; cases e]
            exact e
          · refine R2.dis a o ?_
            rw [upd_ne fun z => by rw [z, hFD] at e; cases e]
            exact e
          · rw [restS_length, ← R.len]
            have h1 := R2.len
            rw [wipeS_length, wipe_length] at h1
            rw [h1]
            exact R.len.symm
          · rcases restS_some h with ⟨h1, h2⟩ | ⟨h1, h2⟩
            · have key : (wipeS ρ2 vs)[j]? = some (some sv) := by
                have key : ∀ (us : List Nat), j ∉ us → (wipeS ρ2 us)[j]? = ρ2[j]? := fun us => by
                  induction us with
                  | nil => exact fun _ => rfl
                  | cons u us ih =>
                    intro hm
                    unfold wipeS
                    rw [List.getElem?_set_ne fun z => hm (by rw [← z]; exact List.mem_cons_self)]
                    exact ih fun z => hm (List.mem_cons_of_mem _ z)
                rw [key vs h2]
                exact h1
              have s := R2.slot j sv key
              rw [wipe_out h2] at s
              generalize hgj : σ[j]? = wj at s
              cases s with
              | sh r => exact .sh r
              | @fr a o xs ds hF hB hH hO r =>
                refine .fr ?_ hB hH hO r
                by_cases z : a = Da
                · rw [z]
                  exact hFD
                · rw [upd_ne z] at hF
                  exact hF
            · have s := R1.slot j sv h1
              generalize hgj : σ[j]? = wj at s
              cases s with
              | sh r => exact .sh (r.mono sm2 _ _)
              | @fr a o xs ds hF hB hH hO r => exact (nf j h2 _ h1).elim
          · refine .fr hFD hBD (R2.exF _ _ upd_same) rfl rl fun j hj => ?_
            obtain ⟨_, xs, ds, _, hF, _⟩ := (ow hj).at R2
            rw [upd_same] at hF
            cases hF
        · rw [if_neg hpk] at e2
          cases e2
  · simp only [if_neg hcd] at q
abbrev W0 : WX := fun _ _ _ _ => False
theorem snd_lc {ifs : List Expr} {scope : Scope} {own : List (Str × Nat)} {wi : TI} {tgt : TG} {it : M Itb} {g : SV → Sl → Option Sl} {w : List Nat} (hca : X.calm = true) (hN : X.N.Nodup) (hi : SndI cv X W tg iter wi it) (ok : BlkOk X.N X.env.scope scope own)
    (hg : ∀ (s : Shared) (H : Hp) (C : Addr) (cl : List (Str × Addr)) (fp : List Addr), SndG (X.blk s H scope (compEnvC scope cl C X.env) fp) tg tgt g w)
    (ht : ∀ (s : Shared) (H : Hp) (C : Addr) (cl : List (Str × Addr)) (fp : List Addr), PTs (X.blk s H scope (compEnvC scope cl C X.env) fp) ifs tt ∧ Adm cv W0 X.K tt c (fun _ _ _ _ _ b b' => b = b'))
    (he : ∀ (s : Shared) (H : Hp) (C : Addr) (cl : List (Str × Addr)) (fp : List Addr), SndE cv (X.blk s H scope (compEnvC scope cl C X.env) fp) W0 elt te f)
    (s0 : Shared) (hw : ∀ j, j ∈ w → j ∈ own.map (·.2)) (hs : ∀ x, foldedSetIterable iter X.env x = pure x := by intro _; rfl) : SndE cv X W (.ListComp elt [⟨tg, iter, ifs, 0⟩] scope pos) (tLc wi tgt tt te (own.map (·.2))) (vLc (own.map (·.2)) it g c f) :=
  ⟨pe_lc hca hN hi.pi ok (fun s H C cl fp => (hg s H C cl fp).pg) (fun s H C cl fp => (ht s H C cl fp).1) (fun s H C cl fp => (he s H C cl fp).pe) hs,
    adm_lc hi.ad (hg s0 X.H_0 0 [] []).ad hw (ht s0 X.H_0 0 [] []).2 (he s0 X.H_0 0 [] []).ad⟩
theorem sns_setLc {i : Nat} {y : Str} {py spos : Pos} {ifs : List Expr} {scope : Scope} {own : List (Str × Nat)} {wi : TI} {tgt : TG} {it : M Itb} {g : SV → Sl → Option Sl} {w : List Nat} (hca : X.calm = true) (hN : X.N.Nodup) (hy : X.N[i]? = some y) (hyl : X.env.scope.names.lookup y = some .local)
    (hsw : swapsWith (.ListComp elt [⟨tg, iter, ifs, 0⟩] scope pos) (some (.Name y py)) spos.line X.env = pure true) (hi : SndI cv X W tg iter wi it) (ok : BlkOk X.N X.env.scope scope own)
    (hg : ∀ (s : Shared) (H : Hp) (C : Addr) (cl : List (Str × Addr)) (fp : List Addr), SndG (X.blk s H scope (compEnvC scope cl C X.env) fp) tg tgt g w)
    (ht : ∀ (s : Shared) (H : Hp) (C : Addr) (cl : List (Str × Addr)) (fp : List Addr), PTs (X.blk s H scope (compEnvC scope cl C X.env) fp) ifs tt ∧ Adm cv W0 X.K tt c (fun _ _ _ _ _ b b' => b = b'))
    (he : ∀ (s : Shared) (H : Hp) (C : Addr) (cl : List (Str × Addr)) (fp : List Addr), SndE cv (X.blk s H scope (compEnvC scope cl C X.env) fp) W0 elt te f)
    (s0 : Shared) (hw : ∀ j, j ∈ w → j ∈ own.map (·.2)) (hs : ∀ x, foldedSetIterable iter X.env x = pure x := by intro _; rfl) (hf : X.fn y = true ∨ X.env.scope.names.lookup y = some .local := by first | exact .inl rfl | exact .inr rfl | assumption) :
    SndS cv X W (.Assign [.Name y py] (.ListComp elt [⟨tg, iter, ifs, 0⟩] scope pos) spos) (tAsg (tLc wi tgt tt te (own.map (·.2))) (gName i)) (sAsg (vLc (own.map (·.2)) it g c f) (gN i)) [i] :=
  ⟨ps_setLc hca hN hy hyl hsw hi.pi ok (fun s H C cl fp => (hg s H C cl fp).pg) (fun s H C cl fp => (ht s H C cl fp).1) (fun s H C cl fp => (he s H C cl fp).pe) hs,
    adm_asg (adm_lc hi.ad (hg s0 X.H_0 0 [] []).ad hw (ht s0 X.H_0 0 [] []).2 (he s0 X.H_0 0 [] []).ad) (sng_name (pos := py) hN hy (.inl hyl) hf).ad⟩
theorem pts_no {X : Cx} {cv : Nat → Value} : PTs X [] tYes ∧ Adm cv W0 X.K tYes (ret true) (fun _ _ _ _ _ b b' => b = b') := ⟨pts_nil, fun F B H σ ρ Q R q => q true B H R (Same.refl _) rfl⟩
theorem pts_if {X : Cx} {cv : Nat → Value} {e : Expr} {t : TT} {m : M Bool} (h : SndB cv X W0 e t m) : PTs X [e] t ∧ Adm cv W0 X.K t m (fun _ _ _ _ _ b b' => b = b') := ⟨pts_one h.pt, h.ad⟩
end
end Sim

namespace Sim
open PySem PySem.Spec PyProof.Rows L2

/-! ### short words for what is printed -/
section
variable {cv : Nat → Value} {X : Cx} {W : WX} {e a b o iter tg : Expr} {es : List Expr} {st : Stmt} {te ta : TE} {ts : TA} {f : M SV} {fa : M Op} {fs : M (List Op)} {pos apos p p2 p3 : Pos}
theorem snd_glob {x : Str} {v : V} {u : Value} {d : D} (hg : Gl X x) (hm : X.mg x = some u) (r : RelV v u) (rp : ∀ H, Rep X.K H v d) (hd : (x == ("__debug__" : Str)) = false := by decide) : SndE cv X W (.Name x pos) (tC v) (vC d) := snd_c (pe_glob hg hm r hd) rp
variable {i : Nat}
end

/-! ### the text's defs as they stand -/
structure DefAt (K : PySem.W.Frag) (mg : Str → Option Value) (x : Str) (st : Stmt) (ps : List Str) : Prop where
  ex : ∃ f fd, Fun K x x st f fd ∧ mg x = some (.ref f) ∧ Binds K fd ps []
def Has (P : Program) (w : World) (K : PySem.W.Frag) (mg : Str → Option Value) (base : Heap) (cv : Nat → Value) (k n : Nat) (io : Option Nat) (Φ : List D → Option CR) (x : Str) (ps : List Str) : Prop :=
  ∃ f fd, FnOk P w K mg base (L2N.CX P w) k f fd ps (spI cv K n io Φ) ∧ mg x = some (.ref f) ∧ PySem.W.keepIn K (.ref f) = true ∧ Binds K fd ps [] ∧ ∃ oc od osl, K.lookup f = some ⟨oc, od, .func fd, osl⟩
structure GlobAt (K : PySem.W.Frag) (mg : Str → Option Value) (x : Str) (d : D) : Prop where
  ex : ∃ u v, mg x = some u ∧ RelV v u ∧ ∀ H, Rep K H v d
theorem fun_look {K : PySem.W.Frag} {x qual : Str} {st : Stmt} {f : Addr} {fd : FuncData} (F : Fun K x qual st f fd) : ∃ oc od osl, K.lookup f = some ⟨oc, od, .func fd, osl⟩ := by
  obtain ⟨oc, od, kV, doc, pm, an, cdv, ct, osl, e, l, c⟩ := F.ex
  exact ⟨oc, od, osl, l⟩
theorem defAt_mk {K : PySem.W.Frag} {h : Heap} {mg : Str → Option Value} {x : Str} {st : Stmt} {ps : List Str} {f : Addr} {od an : Option Addr} {sl : Array (Option Value)} {oc kV dc pm cd ct : Value} (X : K.In h) (G : h.Ns mainGlobals mg)
    (a : PySem.W.nsIn K mainGlobals x = some (some (.ref f))) (l : K.lookup f = some ⟨oc, od, .func (PySem.W.fnOf x x (defArgs st) (defBody st) (defScope st) .none kV dc pm an cd ct), sl⟩) (c : PySem.W.codeIn K cd x = true) (k : PySem.W.keepIn K (.ref f) = true)
    (b : ∀ (kV doc pm : Value) (an : Option Addr) (cdv ct : Value) (us : List Value), us.length = ps.length → bindArgs (PySem.W.fnOf x x (defArgs st) (defBody st) (defScope st) .none kV doc pm an cdv ct) ⟨us, []⟩ = pure (ps.zip us)) : DefAt K mg x st ps := by
  have F := fun_mk (st := st) l c k
  exact ⟨_, _, F, PySem.W.mg_of X G a, F.binds b⟩
theorem with_def {R : Prop} {K : PySem.W.Frag} {h : Heap} {mg : Str → Option Value} {x : Str} {st : Stmt} {ps : List Str} {f : Addr} {od an : Option Addr} {sl : Array (Option Value)} {oc kV dc pm cd ct : Value} (X : K.In h) (G : h.Ns mainGlobals mg)
    (a : PySem.W.nsIn K mainGlobals x = some (some (.ref f))) (l : K.lookup f = some ⟨oc, od, .func (PySem.W.fnOf x x (defArgs st) (defBody st) (defScope st) .none kV dc pm an cd ct), sl⟩) (c : PySem.W.codeIn K cd x = true) (k : PySem.W.keepIn K (.ref f) = true)
    (b : ∀ (kV doc pm : Value) (an : Option Addr) (cdv ct : Value) (us : List Value), us.length = ps.length → bindArgs (PySem.W.fnOf x x (defArgs st) (defBody st) (defScope st) .none kV doc pm an cdv ct) ⟨us, []⟩ = pure (ps.zip us)) (n : DefAt K mg x st ps → R) : R := n (defAt_mk X G a l c k b)
theorem with_no {R : Prop} {K : PySem.W.Frag} {h : Heap} {mg : Str → Option Value} {x : Str} (X : K.In h) (G : h.Ns mainGlobals mg) (a : PySem.W.nsIn K mainGlobals x = some none) (n : mg x = none → R) : R := n (PySem.W.mg_none_of X G a)
theorem with_int {R : Prop} {K : PySem.W.Frag} {h : Heap} {mg : Str → Option Value} {x : Str} {i : Int} {t : Tok} (X : K.In h) (G : h.Ns mainGlobals mg) (a : PySem.W.nsIn K mainGlobals x = some (some (.int i t))) (n : GlobAt K mg x (.int i) → R) : R := n ⟨_, .int i, PySem.W.mg_of X G a, ⟨_, rfl⟩, fun _ => .int _⟩
theorem with_str {R : Prop} {K : PySem.W.Frag} {h : Heap} {mg : Str → Option Value} {x : Str} {i : Str} {t : Tok} (X : K.In h) (G : h.Ns mainGlobals mg) (a : PySem.W.nsIn K mainGlobals x = some (some (.str i t))) (n : GlobAt K mg x (.str i) → R) : R := n ⟨_, .str i, PySem.W.mg_of X G a, ⟨_, rfl⟩, fun _ => .str _⟩
/-- the law's own promise -/
def spLaw (K : PySem.W.Frag) : Sp := fun vs H Q _ => ∃ (a : Addr) (ns : List Int), vs = [.ref a] ∧ SqL K H a (ns.map V.int) ∧ ns.length ≤ 63 ∧ LamX.Tabs lamT H ∧ ∀ H', Q (.bl true) H'
theorem spLaw_of {K : PySem.W.Frag} {cv : Nat → Value} {Φ : List D → Option CR} (plain : ∀ ns : List Int, ns.length ≤ 63 → Φ [.scr ns] = some (.ret (.sh (.bl true)) [])) {vs : List V} {H : Hp} {Q : VK} {E : XK} (h : spLaw K vs H Q E) : spI cv K 1 none Φ vs H Q E := by
  obtain ⟨a, ns, rfl, hS, hl, tb, q⟩ := h
  have hS : SqL K (noT H) a (ns.map V.int) := by
    rcases hS with (hS | ⟨o, hS⟩) | hS
    · exact .inl (.inl ((noT_no (notT tb hS)).trans hS))
    · exact .inl (.inr ⟨o, (noT_no (notT tb hS)).trans hS⟩)
    · exact .inr hS
  refine ⟨rfl, [.scr ns], _, fun _ => none, noT H, none, plain ns hl, noT_same, (fun _ _ e => nomatch e), ⟨(fun _ _ e => nomatch e), tb, fun p hp => noT_at ⟨p, hp, rfl⟩, fun _ _ => rfl⟩, ⟨rfl, fun i v d hv hd _ => ?_, (fun i e => nomatch e), fun _ => rfl⟩, fun v B' H' _ _ _ _ _ cr => ?_⟩
  · cases i with
    | zero =>
      cases hv
      cases hd
      exact .scr hS
    | succ i => simp at hv
  · cases cr with
    | sh r =>
      cases r
      exact q _
theorem law_mk {P : Program} {w : World} {K : PySem.W.Frag} {h : Heap} {mg : Str → Option Value} {y x : Str} {st : Stmt} {CX : CXT} {kk : Nat} {sp : Sp} {fa f : Addr} {od an : Option Addr} {sl : Array (Option Value)} {oc kV dc pm cd ct : Value} (X : K.In h) (G : h.Ns mainGlobals mg) (hfa : mg y = some (.ref fa))
    (a : PySem.W.nsIn K mainGlobals y = some (some (.ref f))) (l : K.lookup f = some ⟨oc, od, .func (PySem.W.fnOf y y (defArgs st) (defBody st) (defScope st) .none kV dc pm an cd ct), sl⟩) (c : PySem.W.codeIn K cd y = true) (k : PySem.W.keepIn K (.ref f) = true)
    (b : ∀ (kV doc pm : Value) (an : Option Addr) (cdv ct : Value) (us : List Value), us.length = ([x] : List Str).length → bindArgs (PySem.W.fnOf y y (defArgs st) (defBody st) (defScope st) .none kV doc pm an cdv ct) ⟨us, []⟩ = pure (([x] : List Str).zip us))
    (bt : ∀ (kV doc pm : Value) (an : Option Addr) (cdv ct : Value) (s : Shared) (v : Value), BindsTo s (PySem.W.fnOf y y (defArgs st) (defBody st) (defScope st) .none kV doc pm an cdv ct) ⟨[v], []⟩ [(x, v)])
    (H : ∀ base : Heap, K.In base → DefAt K mg y st [x] → K.lookup fa = some ⟨oc, od, .func (PySem.W.fnOf y y (defArgs st) (defBody st) (defScope st) .none kV dc pm an cd ct), sl⟩ → FnOk P w K mg base CX kk fa (PySem.W.fnOf y y (defArgs st) (defBody st) (defScope st) .none kV dc pm an cd ct) [x] sp) :
    ∃ fd : FuncData, (∀ (s : Shared) (u : Value), BindsTo s fd ⟨[u], []⟩ [(x, u)]) ∧ ∀ base : Heap, K.In base → base.Ns mainGlobals mg → FnOk P w K mg base CX kk fa fd [x] sp := by
  have e := hfa.symm.trans (PySem.W.mg_of X G a)
  cases e
  exact ⟨_, fun s v => bt _ _ _ _ _ _ s v, fun base hb _ => H base hb (defAt_mk X G a l c k b) l⟩
theorem has_law {P : Program} {w : World} {K : PySem.W.Frag} {mg : Str → Option Value} {base : Heap} {cv : Nat → Value} {k : Nat} {Φ : List D → Option CR} {x : Str} {ps : List Str} {fa : Addr} {fd : FuncData} {oc : Value} {od : Option Addr} {osl : Array (Option Value)} (H : Has P w K mg base cv k 1 none Φ x ps) (hmg : mg x = some (.ref fa))
    (lk : K.lookup fa = some ⟨oc, od, .func fd, osl⟩) (plain : ∀ ns : List Int, ns.length ≤ 63 → Φ [.scr ns] = some (.ret (.sh (.bl true)) [])) : FnOk P w K mg base (L2N.CX P w) k fa fd ps (spLaw K) := by
  obtain ⟨f, fd', G, m, _, _, oc', od', osl', lk'⟩ := H
  rw [hmg] at m
  cases m
  rw [lk] at lk'
  cases lk'
  exact G.imp fun vs H Q E h => spLaw_of plain h
theorem cx_no {P : Program} {w : World} {H : Hp} {s : Shared} {e : Value} {s' : Shared} (h : L2N.CX P w [] H s (fun _ _ _ => False) e s') : False := by
  obtain ⟨_, _, _, _, _, _, _, _, _, _, _, _, h⟩ := h
  exact h
section
variable {cv : Nat → Value} {X : Cx} {W : WX} {elt iter tg : Expr}
theorem snd_lc2 {pos : Pos} {ifs : List Expr} {scope : Scope} {own : List (Str × Nat)} {wi : TI} {tgt : TG} {it : M Itb} {g : SV → Sl → Option Sl} {w : List Nat} {c : M Bool} {f : M SV} {te : Shared → Hp → Addr → List (Str × Addr) → List Addr → TE} {tt : Shared → Hp → Addr → List (Str × Addr) → List Addr → TT} (hca : X.calm = true) (hN : X.N.Nodup) (hi : SndI cv X W tg iter wi it) (ok : BlkOk X.N X.env.scope scope own)
    (hg : ∀ (s : Shared) (H : Hp) (C : Addr) (cl : List (Str × Addr)) (fp : List Addr), SndG (X.blk s H scope (compEnvC scope cl C X.env) fp) tg tgt g w)
    (ht : ∀ (s : Shared) (H : Hp) (C : Addr) (cl : List (Str × Addr)) (fp : List Addr), PTs (X.blk s H scope (compEnvC scope cl C X.env) fp) ifs (tt s H C cl fp) ∧ Adm cv W0 X.K (tt s H C cl fp) c (fun _ _ _ _ _ b b' => b = b'))
    (he : ∀ (s : Shared) (H : Hp) (C : Addr) (cl : List (Str × Addr)) (fp : List Addr), SndE cv (X.blk s H scope (compEnvC scope cl C X.env) fp) W0 elt (te s H C cl fp) f)
    (s0 : Shared) (hw : ∀ j, j ∈ w → j ∈ own.map (·.2)) (hte : ∀ (s : Shared) (H : Hp) (C : Addr) (cl : List (Str × Addr)) (fp : List Addr), te s H C cl fp = te s0 X.H_0 0 [] []) (htt : ∀ (s : Shared) (H : Hp) (C : Addr) (cl : List (Str × Addr)) (fp : List Addr), tt s H C cl fp = tt s0 X.H_0 0 [] []) (hs : ∀ x, foldedSetIterable iter X.env x = pure x := by intro _; rfl) : SndE cv X W (.ListComp elt [⟨tg, iter, ifs, 0⟩] scope pos) (tLc wi tgt (tt s0 X.H_0 0 [] []) (te s0 X.H_0 0 [] []) (own.map (·.2))) (vLc (own.map (·.2)) it g c f) :=
  snd_lc hca hN hi ok hg (fun s H C cl fp => htt s H C cl fp ▸ ht s H C cl fp) (fun s H C cl fp => hte s H C cl fp ▸ he s H C cl fp) s0 hw hs
theorem sns_setLc2 {i : Nat} {y : Str} {py spos : Pos} {pos : Pos} {ifs : List Expr} {scope : Scope} {own : List (Str × Nat)} {wi : TI} {tgt : TG} {it : M Itb} {g : SV → Sl → Option Sl} {w : List Nat} {c : M Bool} {f : M SV} {te : Shared → Hp → Addr → List (Str × Addr) → List Addr → TE} {tt : Shared → Hp → Addr → List (Str × Addr) → List Addr → TT} (hca : X.calm = true) (hN : X.N.Nodup) (hy : X.N[i]? = some y) (hyl : X.env.scope.names.lookup y = some .local)
    (hsw : swapsWith (.ListComp elt [⟨tg, iter, ifs, 0⟩] scope pos) (some (.Name y py)) spos.line X.env = pure true) (hi : SndI cv X W tg iter wi it) (ok : BlkOk X.N X.env.scope scope own)
    (hg : ∀ (s : Shared) (H : Hp) (C : Addr) (cl : List (Str × Addr)) (fp : List Addr), SndG (X.blk s H scope (compEnvC scope cl C X.env) fp) tg tgt g w)
    (ht : ∀ (s : Shared) (H : Hp) (C : Addr) (cl : List (Str × Addr)) (fp : List Addr), PTs (X.blk s H scope (compEnvC scope cl C X.env) fp) ifs (tt s H C cl fp) ∧ Adm cv W0 X.K (tt s H C cl fp) c (fun _ _ _ _ _ b b' => b = b'))
    (he : ∀ (s : Shared) (H : Hp) (C : Addr) (cl : List (Str × Addr)) (fp : List Addr), SndE cv (X.blk s H scope (compEnvC scope cl C X.env) fp) W0 elt (te s H C cl fp) f)
    (s0 : Shared) (hw : ∀ j, j ∈ w → j ∈ own.map (·.2)) (hte : ∀ (s : Shared) (H : Hp) (C : Addr) (cl : List (Str × Addr)) (fp : List Addr), te s H C cl fp = te s0 X.H_0 0 [] []) (htt : ∀ (s : Shared) (H : Hp) (C : Addr) (cl : List (Str × Addr)) (fp : List Addr), tt s H C cl fp = tt s0 X.H_0 0 [] []) (hs : ∀ x, foldedSetIterable iter X.env x = pure x := by intro _; rfl) (hf : X.fn y = true ∨ X.env.scope.names.lookup y = some .local := by first | exact .inl rfl | exact .inr rfl | assumption) :
    SndS cv X W (.Assign [.Name y py] (.ListComp elt [⟨tg, iter, ifs, 0⟩] scope pos) spos) (tAsg (tLc wi tgt (tt s0 X.H_0 0 [] []) (te s0 X.H_0 0 [] []) (own.map (·.2))) (gName i)) (sAsg (vLc (own.map (·.2)) it g c f) (gN i)) [i] :=
  sns_setLc hca hN hy hyl hsw hi ok hg (fun s H C cl fp => htt s H C cl fp ▸ ht s H C cl fp) (fun s H C cl fp => hte s H C cl fp ▸ he s H C cl fp) s0 hw hs hf
end
end Sim

namespace Sim
open PySem PySem.Spec PyProof.Rows L2
/-! ### equations for running by hand -/
theorem gMul_ok {i j : Int} (h : MulOk i j) : gMul (.int i) (.int j) = some (.sh (.int (i * j))) := if_pos h
theorem gDiv_pos {i j : Int} (h : 0 < j) (h2 : j.natAbs.log2 < 9000) : gDiv (.int i) (.int j) = some (.sh (.int (i / j))) := by
  show (if DivOk i j then some (SV.sh (.int (i.fdiv j))) else none) = _
  rw [if_pos ⟨by omega, h2⟩, Int.fdiv_eq_ediv_of_nonneg _ (by omega)]
theorem gDiv_neg {i j : Int} (h : j < 0) (h2 : j.natAbs.log2 < 9000) : gDiv (.int i) (.int j) = some (.sh (.int ((-i) / (-j)))) := by
  show (if DivOk i j then some (SV.sh (.int (i.fdiv j))) else none) = _
  rw [if_pos ⟨by omega, h2⟩, ← Int.fdiv_eq_ediv_of_nonneg _ (by omega), Int.neg_fdiv_neg]
theorem gMod_pos {i j : Int} (h : 0 < j) : gMod (.int i) (.int j) = some (.sh (.int (i % j))) := by
  show (if j ≠ 0 then some (SV.sh (.int (i.fmod j))) else none) = _
  rw [if_pos (by omega), Int.fmod_eq_emod_of_nonneg _ (by omega)]
theorem mulOk_l {i j : Int} (h1 : -(2 ^ 64) < i) (h2 : i < 2 ^ 64) : MulOk i j := .inl ⟨h1, h2⟩
theorem mulOk_r {i j : Int} (h1 : -(2 ^ 64) < j) (h2 : j < 2 ^ 64) : MulOk i j := .inr (.inl ⟨h1, h2⟩)
theorem log2_lt {n k : Nat} (h : n < 2 ^ k) (hk : 0 < k) : n.log2 < k := by
  rcases Nat.eq_zero_or_pos n with rfl | hn
  · have e : Nat.log2 0 = 0 := by decide
    rw [e]
    exact hk
  · exact (Nat.log2_lt (by omega)).mpr h
/-- two numbers below 2^400000 -/
theorem mulOk_big {i j : Int} {k m : Nat} (h1 : i.natAbs < 2 ^ k) (h2 : j.natAbs < 2 ^ m) (hk : 0 < k) (hm : 0 < m) (h : k + m ≤ 1000000) : MulOk i j := by
  refine .inr (.inr ?_)
  have a := log2_lt h1 hk
  have b := log2_lt h2 hm
  omega
theorem log_9000 {j : Int} {k : Nat} (h : j.natAbs < 2 ^ k) (hk : 0 < k) (h9 : k ≤ 9000) : j.natAbs.log2 < 9000 := Nat.lt_of_lt_of_le (log2_lt h hk) h9
theorem atI_0 {α : Type} {x : α} {l : List α} : atI (x :: l) (0 : Int) = some x := atI_nat (j := 0) rfl
theorem atI_1 {α : Type} {x y : α} {l : List α} : atI (x :: y :: l) (1 : Int) = some y := atI_nat (j := 1) rfl
theorem atI_2 {α : Type} {x y z : α} {l : List α} : atI (x :: y :: z :: l) (2 : Int) = some z := atI_nat (j := 2) rfl
theorem atI_3 {α : Type} {x y z u : α} {l : List α} : atI (x :: y :: z :: u :: l) (3 : Int) = some u := atI_nat (j := 3) rfl
theorem atI_at {α : Type} {l : List α} {i : Int} {d : α} (h : l[i.toNat]? = some d) (h0 : 0 ≤ i) : atI l i = some d := by
  have e := atI_nat h
  rw [Int.toNat_of_nonneg h0] at e
  exact e
theorem bnd_ok {α β : Type} {f : M α} {k : α → M β} {ρ ρ' : Sl} {a : α} (h : f ρ = some (.ok a ρ')) : bnd f k ρ = k a ρ' := by
  unfold bnd
  rw [h]
theorem forL_cons {g : SV → Sl → Option Sl} {body : SM} {d : D} {ds : List D} {ρ ρ1 ρ2 : Sl} (h1 : g (.sh d) ρ = some ρ1) (h2 : body ρ1 = some (.nx ρ2)) : forL g body (d :: ds) ρ = forL g body ds ρ2 := by
  show ((g (.sh d) ρ).bind fun ρ1 => turnK (forL g body ds) (body ρ1)) = _
  rw [h1]
  show turnK (forL g body ds) (body ρ1) = _
  rw [h2]
  rfl
theorem mem_rng {lo : Int} {n : Nat} {d : D} (h : d ∈ rngD lo n) : ∃ k : Nat, k < n ∧ d = .int (lo + k) := by
  unfold rngD at h
  obtain ⟨k, hk, e⟩ := List.mem_map.mp h
  exact ⟨k, List.mem_range.mp hk, e.symm⟩
end Sim

namespace Sim
open PySem PySem.Spec PyProof.Rows L2
/-! ### the runs, applied: each step once what it stands on is known -/
def seqK (n : SM) : Option SO → Option SO
  | some (.nx ρ) => n ρ
  | o => o
def exK {α : Type} (k : α → SM) : Option (Out α) → Option SO
  | none => none
  | some (.ex c ρ) => some (.ex c ρ)
  | some (.ok a ρ) => k a ρ
def bnK {α β : Type} (k : α → M β) : Option (Out α) → Option (Out β)
  | none => none
  | some (.ex c ρ) => some (.ex c ρ)
  | some (.ok a ρ) => k a ρ
def okK (ρ : Sl) (o : Option SV) : Option (Out SV) := o.map fun sv => .ok sv ρ
def varK (i : Nat) (ρ : Sl) : Option (Option SV) → Option (Out SV)
  | some (some (.sh d)) => some (.ok (.sh d) ρ)
  | some (some (.ow c)) => some (.ok (.sh c.d) (ρ.set i (some (.sh c.d))))
  | _ => none
def mvK (i : Nat) (ρ : Sl) : Option (Option SV) → Option (Out SV)
  | some (some (.sh d)) => some (.ok (.sh d) ρ)
  | some (some (.ow c)) => some (.ok (.ow c) (ρ.set i none))
  | _ => none
def pkK (i : Nat) (ρ : Sl) : Option (Option SV) → Option (Out Op)
  | some (some _) => some (.ok (.slot i) ρ)
  | _ => none
def sdK : Option (Option SV) → Option D
  | some (some sv) => some sv.d
  | _ => none
def l1K (g : D → Option SV) (ρ : Sl) : Option D → Option (Out SV)
  | some x => okK ρ (g x)
  | none => none
def l2K (g : D → D → Option SV) (ρ : Sl) : Option D → Option D → Option (Out SV)
  | some x, some y => okK ρ (g x y)
  | _, _ => none
def lAK (g : List D → Option SV) (ρ : Sl) : Option (List D) → Option (Out SV)
  | some x => okK ρ (g x)
  | none => none
def gsK : Option D → Option (List D) → Option (List D)
  | some d, some ds => some (d :: ds)
  | _, _ => none
def tsK : Option (Out SV) → Option (Out Bool)
  | some (.ok (.sh (.bl b)) ρ) => some (.ok b ρ)
  | some (.ex c ρ) => some (.ex c ρ)
  | _ => none
def tpK (ρ : Sl) : Option (List D) → Option (Out SV)
  | some ds => if ds.length ≤ 1000000 then some (.ok (.sh (.tup ds)) ρ) else none
  | none => none
def lsK (ρ : Sl) : Option (List D) → Option (Out SV)
  | some ds => if ds.length ≤ 1000000 then some (.ok (.fr ds) ρ) else none
  | none => none
def clK (io : Option Nat) (Φ : List D → Option CR) (os : List Op) (ρ : Sl) : Option (List D) → Option (Out SV)
  | none => none
  | some ds => match Φ ds with
    | none => none
    | some res => if (ioOk io os ρ && (noBr io os ρ || resOk io os ρ res)) = true then some (outOf io os ρ res) else none
def rsK (io : Option Nat) (os : List Op) (ρ : Sl) : Option CR → Option (Out SV)
  | none => none
  | some res => if (ioOk io os ρ && (noBr io os ρ || resOk io os ρ res)) = true then some (outOf io os ρ res) else none
def ioK (io : Option Nat) (os : List Op) (ρ : Sl) : Option Nat → Bool
  | some i => isFr ρ i && !(brs io os).contains i
  | none => false
def puK (out : List D) (ρ : Sl) : Option Nat → Sl
  | some i => ρ.set i (some (.fr out))
  | none => ρ
def r1K (ρ : Sl) : Option (List D) → Option (Out Itb)
  | some [.int j] => (if RngOk j then some (Itb.mk (rngD 0 j.toNat) []) else none).map fun ib => .ok ib ρ
  | _ => none
def r2K (ρ : Sl) (x : Option (List D)) : Option (Out Itb) := (match x with
  | some [.int i, .int j] => if RngOk i ∧ RngOk j then some (Itb.mk (rngD i (j - i).toNat) []) else none
  | _ => none).map fun ib => .ok ib ρ
def itK (ρ : Sl) (x : Option Itb) : Option (Out Itb) := x.map fun ib => .ok ib ρ
def tIK (ρ : Sl) : Option D → Option (Out Itb)
  | some (.tup l) => some (.ok ⟨l, []⟩ ρ)
  | _ => none
def lxK (i : Nat) : Option (Option SV) → Option Itb
  | some (some (.ow (.lst l))) => some ⟨l, [(i, l)]⟩
  | some (some (.sh (.lst l))) => some ⟨l, []⟩
  | some (some (.sh (.scr l))) => some ⟨l.map .int, []⟩
  | _ => none
def zpK : Option Itb → Option Itb → Option Itb
  | some x, some y => some ⟨zipD x.ds y.ds, x.pk ++ y.pk⟩
  | _, _ => none
def pnK : Option (Out SV) → Option (Out (Option Int))
  | some (.ok (.sh (.int i)) ρ) => some (.ok (some i) ρ)
  | some (.ex c ρ) => some (.ex c ρ)
  | _ => none
def nxK (o : Option Sl) : Option SO := o.map .nx
def ruK (io : Option Nat) : Option SO → Option CR
  | some (.nx ρ) => (outS io ρ).map (.ret (.sh .non))
  | some (.rt sv ρ) => (outS io ρ).map (.ret sv)
  | some (.ex c ρ) => (outS io ρ).map (.exc c)
  | _ => none
def osK : Option (Option SV) → Option (List D)
  | some (some (.ow (.lst l))) => some l
  | _ => none
def frK : Option (Option SV) → Bool
  | some (some (.ow (.lst _))) => true
  | _ => false
def stIK (i : Nat) (ρ : Sl) (d : D) (k : Int) : Option (Option SV) → Option SO
  | some (some (.ow (.lst l))) => (ixN l.length k).map fun j => .nx (ρ.set i (some (.fr (l.set j d))))
  | _ => none
def mtIK (i : Nat) (ρ : Sl) (g : List D → List D → Option (D × List D)) (os : List Op) : Option (Option SV) → Option (Out SV)
  | some (some (.ow (.lst l))) => match vals os with
    | some ds => match g l ds with
      | some (d, l') => some (.ok (.sh d) (ρ.set i (some (.fr l'))))
      | none => none
    | none => none
  | _ => none
section
variable {α β : Type} {m n : SM} {f : M α} {k : α → M β} {q : α → SM} {ρ : Sl} {a : α} {c : Nat} {sv : SV} {d x y : D} {ds l : List D} {os : List Op} {o p : Op} {i j : Nat} {z : Int} {b : Bool}
theorem e_seq : sSeq m n ρ = seqK n (m ρ) := rfl
theorem k_seq1 : seqK n (some (.nx ρ)) = n ρ := rfl
theorem k_seq2 : seqK n (some (.rt sv ρ)) = some (.rt sv ρ) := rfl
theorem k_seq3 : seqK n (some (.ex c ρ)) = some (.ex c ρ) := rfl
theorem k_seq4 : seqK n (some (.bk ρ)) = some (.bk ρ) := rfl
theorem k_seq5 : seqK n (some (.ct ρ)) = some (.ct ρ) := rfl
theorem e_ex : sEx f q ρ = exK q (f ρ) := rfl
theorem k_ex1 : exK q (some (.ok a ρ)) = q a ρ := rfl
theorem k_ex2 : exK q (some (.ex c ρ)) = some (.ex c ρ) := rfl
theorem e_bnd : bnd f k ρ = bnK k (f ρ) := rfl
theorem k_bn1 : bnK k (some (.ok a ρ)) = k a ρ := rfl
theorem k_bn2 : bnK k (some (.ex c ρ)) = some (.ex c ρ) := rfl
theorem e_ret : ret a ρ = some (.ok a ρ) := rfl
theorem e_nx : sNx ρ = some (.nx ρ) := rfl
theorem e_bk : sBk ρ = some (.bk ρ) := rfl
theorem e_ct : sCt ρ = some (.ct ρ) := rfl
theorem e_c : vC d ρ = some (.ok (.sh d) ρ) := rfl
theorem e_var : vVar i ρ = varK i ρ ρ[i]? := by unfold vVar varK; generalize ρ[i]? = x; rcases x with _ | _ | _ | _ <;> rfl
theorem k_var1 : varK i ρ (some (some (.sh d))) = some (.ok (.sh d) ρ) := rfl
theorem k_var2 : varK i ρ (some (some (.fr l))) = some (.ok (.sh (.lst l)) (ρ.set i (some (.sh (.lst l))))) := rfl
theorem e_mv : vMv i ρ = mvK i ρ ρ[i]? := by unfold vMv mvK; generalize ρ[i]? = x; rcases x with _ | _ | _ | _ <;> rfl
theorem k_mv1 : mvK i ρ (some (some (.sh d))) = some (.ok (.sh d) ρ) := rfl
theorem k_mv2 : mvK i ρ (some (some (.fr l))) = some (.ok (.fr l) (ρ.set i none)) := rfl
theorem e_pk : oPk i ρ = pkK i ρ ρ[i]? := by unfold oPk pkK; generalize ρ[i]? = x; rcases x with _ | _ | _ <;> rfl
theorem k_pk : pkK i ρ (some (some sv)) = some (.ok (.slot i) ρ) := rfl
theorem e_get1 : get ρ (.val d) = some d := rfl
theorem e_get2 : get ρ (.slot i) = sdK ρ[i]? := by show slotD ρ i = _; unfold slotD sdK; generalize ρ[i]? = x; rcases x with _ | _ | _ <;> rfl
theorem k_sd1 : sdK (some (some (.sh d))) = some d := rfl
theorem k_sd2 : sdK (some (some (.fr l))) = some (.lst l) := rfl
theorem e_gets1 : gets ρ [] = some [] := rfl
theorem e_gets2 : gets ρ (o :: os) = gsK (get ρ o) (gets ρ os) := by conv => { lhs; unfold gets }; unfold gsK; generalize get ρ o = x; generalize gets ρ os = y; cases x <;> cases y <;> rfl
theorem k_gs : gsK (some d) (some ds) = some (d :: ds) := rfl
theorem e_vals1 : vals [] = some [] := rfl
theorem e_vals2 : vals (.val d :: os) = (vals os).map (d :: ·) := rfl
theorem e_oOf {f : M SV} : oOf f ρ = bnK (fun sv => ret (.val sv.d)) (f ρ) := rfl
theorem e_d1 : (SV.sh d).d = d := rfl
theorem e_d2 : (SV.fr l).d = .lst l := rfl
theorem e_d3 {ks : List L2.Key} {vs : List D} : (SV.ow (.dk ks vs)).d = .dck ks vs := rfl
theorem e_d4 {ks : List (List Int)} {vs : List D} : (SV.ow (.dt ks vs)).d = .dct ks vs := rfl
theorem e_d5 {c : Str} {ns : List Str} {fs : List D} : (SV.ow (.ob c ns fs)).d = .ob c ns fs := rfl
theorem k_var3 {ks : List L2.Key} {vs : List D} : varK i ρ (some (some (.ow (.dk ks vs)))) = some (.ok (.sh (.dck ks vs)) (ρ.set i (some (.sh (.dck ks vs))))) := rfl
theorem k_var4 {ks : List (List Int)} {vs : List D} : varK i ρ (some (some (.ow (.dt ks vs)))) = some (.ok (.sh (.dct ks vs)) (ρ.set i (some (.sh (.dct ks vs))))) := rfl
theorem k_var5 {c : Str} {ns : List Str} {fs : List D} : varK i ρ (some (some (.ow (.ob c ns fs)))) = some (.ok (.sh (.ob c ns fs)) (ρ.set i (some (.sh (.ob c ns fs))))) := rfl
theorem k_mv3 {c : OC} : mvK i ρ (some (some (.ow c))) = some (.ok (.ow c) (ρ.set i none)) := rfl
theorem k_sd3 {ks : List L2.Key} {vs : List D} : sdK (some (some (.ow (.dk ks vs)))) = some (.dck ks vs) := rfl
theorem k_sd4 {ks : List (List Int)} {vs : List D} : sdK (some (some (.ow (.dt ks vs)))) = some (.dct ks vs) := rfl
theorem k_sd5 {c : Str} {ns : List Str} {fs : List D} : sdK (some (some (.ow (.ob c ns fs)))) = some (.ob c ns fs) := rfl
def owK : Option (Option SV) → Bool
  | some (some (.ow _)) => true
  | _ => false
theorem e_isOw : isOw ρ i = owK ρ[i]? := by unfold isOw owK; generalize ρ[i]? = x; rcases x with _ | _ | _ | _ <;> rfl
theorem k_ow1 {c : OC} : owK (some (some (.ow c))) = true := rfl
theorem k_ow2 : owK (some (some (.sh d))) = false := rfl
theorem e_resOk {io : Option Nat} {res : CR} : resOk io os ρ res = (resT res || (noBrL io os ρ && resL res)) := rfl
theorem e_resL1 : resL (.ret (.sh d) l) = (isL d && isLL l) := rfl
theorem e_resL2 : resL (.ret (.fr ds) l) = (isLL ds && isLL l) := rfl
theorem e_noBrL {io : Option Nat} : noBrL io os ρ = (brs io os).all fun j => !isFr ρ j := rfl
theorem e_isL1 : isL (.lst l) = isLL l := by rw [isL]
theorem e_isL2 : isL (.tup l) = isLL l := by rw [isL]
theorem e_isL3 {i : Int} : isL (.int i) = true := by rw [isL]
theorem e_isL4 {i : Bool} : isL (.bl i) = true := by rw [isL]
theorem e_isL5 : isL .non = true := by rw [isL]
theorem e_isL6 {i : Str} : isL (.str i) = true := by rw [isL]
theorem e_isLL1 : isLL [] = true := by rw [isLL]
theorem e_isLL2 : isLL (d :: ds) = (isL d && isLL ds) := by rw [isLL]
theorem e_an : aNil ρ = some (.ok [] ρ) := rfl
theorem e_ac {a : M Op} {as : M (List Op)} : aCons a as ρ = bnK (fun o => bnd as fun os => ret (o :: os)) (a ρ) := rfl
theorem e_op1 {g : D → Option SV} {a : M Op} : vOp1 g a ρ = bnK (lift1 g) (a ρ) := rfl
theorem e_op2 {g : D → D → Option SV} {a b : M Op} : vOp2 g a b ρ = bnK (fun o => bnd b (lift2 g o)) (a ρ) := rfl
theorem e_bi {g : List D → Option SV} {as : M (List Op)} : vBi g as ρ = bnK (liftA g) (as ρ) := rfl
theorem e_l1 {g : D → Option SV} : lift1 g o ρ = l1K g ρ (get ρ o) := by unfold lift1 l1K okK; generalize get ρ o = x; cases x <;> rfl
theorem k_l1 {g : D → Option SV} : l1K g ρ (some x) = okK ρ (g x) := rfl
theorem e_l2 {g : D → D → Option SV} : lift2 g o p ρ = l2K g ρ (get ρ o) (get ρ p) := by unfold lift2 l2K okK; generalize get ρ o = x; generalize get ρ p = y; cases x <;> cases y <;> rfl
theorem k_l2 {g : D → D → Option SV} : l2K g ρ (some x) (some y) = okK ρ (g x y) := rfl
theorem e_lA {g : List D → Option SV} : liftA g os ρ = lAK g ρ (gets ρ os) := by unfold liftA lAK okK; generalize gets ρ os = x; cases x <;> rfl
theorem k_lA {g : List D → Option SV} : lAK g ρ (some ds) = okK ρ (g ds) := rfl
theorem k_ok : okK ρ (some sv) = some (.ok sv ρ) := rfl
theorem e_tst {f : M SV} : tst f ρ = tsK (f ρ) := by
  unfold tst bnd tsK
  cases f ρ with
  | none => rfl
  | some o =>
    cases o with
    | ex c ρ' => rfl
    | ok sv ρ' =>
      cases sv with
      | ow l => rfl
      | sh d => cases d <;> rfl
theorem k_ts1 : tsK (some (.ok (.sh (.bl b)) ρ)) = some (.ok b ρ) := rfl
theorem k_ts2 : tsK (some (.ex c ρ)) = some (.ex c ρ) := rfl
theorem e_tand {a b : M Bool} : tand a b ρ = bnK (fun x => if x = true then b else ret false) (a ρ) := rfl
theorem e_tor {a b : M Bool} : tor a b ρ = bnK (fun x => if x = true then ret true else b) (a ρ) := rfl
theorem e_tnot {a : M Bool} : tnot a ρ = bnK (fun x => ret (!x)) (a ρ) := rfl
theorem e_vand {a b : M SV} : vand a b ρ = bnK (fun x => if x = true then b else ret (.sh (.bl false))) (tst a ρ) := rfl
theorem e_vor {a b : M SV} : vor a b ρ = bnK (fun x => if x = true then ret (.sh (.bl true)) else b) (tst a ρ) := rfl
theorem e_vnot {a : M SV} : vnot a ρ = bnK (fun x => ret (.sh (.bl (!x)))) (tst a ρ) := rfl
theorem e_vif {t : M Bool} {a b : M SV} : vif t a b ρ = bnK (fun x => if x = true then a else b) (t ρ) := rfl
theorem e_iteT {α β : Type} {f g : α → β} {x : α} : (if True then f else g) x = f x := rfl
theorem e_iteF {α β : Type} {f g : α → β} {x : α} : (if False then f else g) x = g x := rfl
theorem e_tup {as : M (List Op)} : vTup as ρ = bnK (fun os ρ => tpK ρ (vals os)) (as ρ) := by
  unfold vTup bnd bnK
  cases as ρ with
  | none => rfl
  | some o =>
    cases o with
    | ex c ρ' => rfl
    | ok os ρ' =>
      show (match vals os with | some ds => _ | none => _) = tpK ρ' (vals os)
      unfold tpK
      cases vals os <;> rfl
theorem k_tp : tpK ρ (some ds) = if ds.length ≤ 1000000 then some (.ok (.sh (.tup ds)) ρ) else none := rfl
theorem e_lst {as : M (List Op)} : vLst as ρ = bnK (fun os ρ => lsK ρ (vals os)) (as ρ) := by
  unfold vLst bnd bnK
  cases as ρ with
  | none => rfl
  | some o =>
    cases o with
    | ex c ρ' => rfl
    | ok os ρ' =>
      show (match vals os with | some ds => _ | none => _) = lsK ρ' (vals os)
      unfold lsK
      cases vals os <;> rfl
theorem k_ls : lsK ρ (some ds) = if ds.length ≤ 1000000 then some (.ok (.fr ds) ρ) else none := rfl
theorem e_is {p : D → Bool} {a : M Op} : vIs p a ρ = bnK (lift1 (gIs p)) (a ρ) := rfl
theorem gIs_non {p : D → Bool} : gIs p .non = some (.sh (.bl (p .non))) := rfl
theorem gIs_bl {p : D → Bool} {b : Bool} : gIs p (.bl b) = some (.sh (.bl (p (.bl b)))) := rfl
theorem gIs_int {p : D → Bool} {i : Int} : gIs p (.int i) = some (.sh (.bl (p (.int i)))) := rfl
theorem gIs_str {p : D → Bool} {s : Str} : gIs p (.str s) = some (.sh (.bl (p (.str s)))) := rfl
theorem gIs_tup {p : D → Bool} {l : List D} : gIs p (.tup l) = some (.sh (.bl (p (.tup l)))) := rfl
theorem gIs_lst {p : D → Bool} {l : List D} : gIs p (.lst l) = some (.sh (.bl (p (.lst l)))) := rfl
theorem gIs_scr {p : D → Bool} {l : List Int} : gIs p (.scr l) = some (.sh (.bl (p (.scr l)))) := rfl
theorem e_call {io : Option Nat} {Φ : List D → Option CR} {as : M (List Op)} : vCall j io Φ as ρ = bnK (fun os ρ => if os.length = j then callM io Φ os ρ else none) (as ρ) := rfl
theorem e_callM {io : Option Nat} {Φ : List D → Option CR} : callM io Φ os ρ = clK io Φ os ρ (gets ρ os) := by unfold callM clK; generalize gets ρ os = x; cases x <;> rfl
theorem k_cl {io : Option Nat} {Φ : List D → Option CR} : clK io Φ os ρ (some ds) = rsK io os ρ (Φ ds) := by
  show (match Φ ds with | none => _ | some res => _) = _
  unfold rsK
  cases Φ ds <;> rfl
theorem k_rs {io : Option Nat} {r : CR} : rsK io os ρ (some r) = if (ioOk io os ρ && (noBr io os ρ || resOk io os ρ r)) = true then some (outOf io os ρ r) else none := rfl
theorem e_if {t : M Bool} : sIf t m n ρ = exK (fun b => if b = true then m else n) (t ρ) := rfl
theorem e_sret {f : M SV} : sRet f ρ = exK (fun sv ρ => some (.rt sv ρ)) (f ρ) := rfl
theorem e_sretN : sRetN ρ = some (.rt (.sh .non) ρ) := rfl
theorem e_drop {f : M SV} : sDrop f ρ = exK (fun _ ρ => some (.nx ρ)) (f ρ) := rfl
theorem e_asg {f : M SV} {g : SV → Sl → Option Sl} : sAsg f g ρ = exK (fun sv ρ => nxK (g sv ρ)) (f ρ) := rfl
theorem k_nx {ρ' : Sl} : nxK (some ρ') = some (.nx ρ') := rfl
theorem e_gN : gN i sv ρ = if i < ρ.length then some (ρ.set i (some sv)) else none := rfl
theorem e_gT {gs : List D → Sl → Option Sl} : gT j gs (.sh (.tup l)) ρ = if l.length = j then gs l ρ else none := rfl
theorem e_gsN : gsN [] ρ = some ρ := rfl
theorem e_gsC {g : SV → Sl → Option Sl} {gs : List D → Sl → Option Sl} : gsC g gs (d :: ds) ρ = (g (.sh d) ρ).bind (gs ds) := rfl
theorem e_par {as : M (List Op)} : sPar i j as ρ = exK (fun os ρ => match vals os with | some [x, y] => if i < ρ.length ∧ j < ρ.length then some (.nx ((ρ.set i (some (.sh x))).set j (some (.sh y)))) else none | _ => none) (as ρ) := rfl
theorem e_run {io : Option Nat} : runB io j m ds = ruK io (m (startS io j ds)) := by unfold runB ruK; generalize m (startS io j ds) = x; rcases x with _ | _ | _ | _ | _ | _ <;> rfl
theorem k_ru1 {io : Option Nat} : ruK io (some (.nx ρ)) = (outS io ρ).map (.ret (.sh .non)) := rfl
theorem k_ru2 {io : Option Nat} : ruK io (some (.rt sv ρ)) = (outS io ρ).map (.ret sv) := rfl
theorem k_ru3 {io : Option Nat} : ruK io (some (.ex c ρ)) = (outS io ρ).map (.exc c) := rfl
theorem e_out1 : outS none ρ = some [] := rfl
theorem e_out2 : outS (some i) ρ = osK ρ[i]? := by
  show (match ρ[i]? with | some (some (.ow (.lst l))) => some l | _ => none) = _
  unfold osK
  generalize ρ[i]? = x
  rcases x with _ | _ | _ | c <;> first | rfl | (cases c <;> rfl)
theorem k_os : osK (some (some (.fr l))) = some l := rfl
theorem e_start {io : Option Nat} : startS io j ds = startL io ds ++ List.replicate (j - ds.length) none := rfl
theorem e_stl1 : startL none ds = shL ds := rfl
theorem e_stl2 : startL (some i) ds = (shL ds).set i (frO ds[i]?) := rfl
theorem e_fro : frO (some (.lst l)) = some (.fr l) := rfl
theorem e_isFr : isFr ρ i = frK ρ[i]? := by unfold isFr frK; generalize ρ[i]? = x; rcases x with _ | _ | _ | _ | _ | _ | _ <;> rfl
theorem k_fr1 : frK (some (some (.fr l))) = true := rfl
theorem k_fr2 : frK (some (some (.sh d))) = false := rfl
theorem k_fr3 {ks : List L2.Key} {vs : List D} : frK (some (some (.ow (.dk ks vs)))) = false := rfl
theorem k_fr4 {ks : List (List Int)} {vs : List D} : frK (some (some (.ow (.dt ks vs)))) = false := rfl
theorem k_fr5 {c : Str} {ns : List Str} {fs : List D} : frK (some (some (.ow (.ob c ns fs)))) = false := rfl
theorem e_ioOk1 : ioOk none os ρ = true := rfl
theorem e_ioOk2 : ioOk (some j) os ρ = ioK (some j) os ρ (ioSlot (some j) os) := by
  show (match ioSlot (some j) os with | some i => _ | none => _) = _
  cases ioSlot (some j) os <;> rfl
theorem k_ioOk {io : Option Nat} : ioK io os ρ (some i) = (isFr ρ i && !(brs io os).contains i) := rfl
theorem e_noBr {io : Option Nat} : noBr io os ρ = (brs io os).all fun j => !isOw ρ j := rfl
theorem e_ios1 : ioSlot (some 0) (.slot i :: os) = some i := rfl
theorem e_ios2 : ioSlot (some (j + 1)) (o :: os) = ioSlot (some j) os := by cases o <;> rfl
theorem e_brs1 {io : Option Nat} : brs io [] = [] := by unfold brs; rfl
theorem e_brs2 {io : Option Nat} : brs io (.val d :: os) = brs (decO io) os := by rcases io with _ | _ | _ <;> rfl
theorem e_brs3 : brs (some 0) (.slot i :: os) = brs none os := by rfl
theorem e_brs4 : brs (some (j + 1)) (.slot i :: os) = i :: brs (some j) os := by rfl
theorem e_brs5 : brs none (.slot i :: os) = i :: brs none os := by rfl
theorem e_dec1 : decO none = none := rfl
theorem e_dec2 : decO (some 0) = none := rfl
theorem e_dec3 : decO (some (j + 1)) = some j := rfl
theorem e_put1 : putO (some j) os l ρ = puK l ρ (ioSlot (some j) os) := by
  show (match ioSlot (some j) os with | some i => _ | none => _) = _
  cases ioSlot (some j) os <;> rfl
theorem k_put : puK l ρ (some i) = ρ.set i (some (.fr l)) := rfl
theorem e_put2 : putO none os l ρ = ρ := by
  have e : ioSlot none os = none := by unfold ioSlot; cases os <;> rfl
  unfold putO
  rw [e]
theorem e_outOf1 {io : Option Nat} : outOf io os ρ (.ret sv l) = .ok sv (putO io os l ρ) := rfl
theorem e_outOf2 {io : Option Nat} : outOf io os ρ (.exc c l) = .ex c (putO io os l ρ) := rfl
theorem e_guard : frGuard i m ρ = if isFr ρ i = true then m ρ else none := rfl
theorem e_setIx {f k : M Op} : sSetIx i f k ρ = exK (fun o => frGuard i (sEx k fun p => stK i o p)) (f ρ) := rfl
theorem e_stK : stK i (.val d) (.val (.int z)) ρ = stIK i ρ d z ρ[i]? := by
  unfold stK stIK
  cases ρ[i]? with
  | none => rfl
  | some s =>
    cases s with
    | none => rfl
    | some sv => rcases sv with _ | c <;> first | rfl | (cases c <;> rfl)
theorem k_stI : stIK i ρ d z (some (some (.fr l))) = (ixN l.length z).map fun j => .nx (ρ.set i (some (.fr (l.set j d)))) := rfl
theorem e_mt {g : List D → List D → Option (D × List D)} {as : M (List Op)} : vMt i g as ρ = if isFr ρ i = true then bnd as (mtK i g) ρ else none := rfl
theorem e_mtK {g : List D → List D → Option (D × List D)} : mtK i g os ρ = mtIK i ρ g os ρ[i]? := by
  unfold mtK mtIK
  cases ρ[i]? with
  | none => rfl
  | some s =>
    cases s with
    | none => rfl
    | some sv => rcases sv with _ | c <;> first | rfl | (cases c <;> rfl)
theorem k_mtI {g : List D → List D → Option (D × List D)} (h : vals os = some ds) : mtIK i ρ g os (some (some (.fr l))) = (g l ds).map fun r => .ok (.sh r.1) (ρ.set i (some (.fr r.2))) := by
  show (match vals os with | some ds => _ | none => _) = _
  rw [h]
  show (match g l ds with | some (d, l') => _ | none => _) = _
  cases g l ds <;> rfl
theorem e_chain {g g' : D → D → Option SV} {a b cc : M Op} : vChain g g' a b cc ρ = bnK (fun x => bnd b fun y => bnd (tst (lift2 g x y)) fun k => if k = true then bnd cc fun z => lift2 g' y z else ret (.sh (.bl false))) (a ρ) := rfl
theorem e_for {it : M Itb} {g : SV → Sl → Option Sl} : sFor it g m ρ = exK (fun ib => if ib.pk = [] then forL g m ib.ds else fun _ => none) (it ρ) := rfl
theorem e_forL1 {g : SV → Sl → Option Sl} : forL g m [] ρ = some (.nx ρ) := rfl
theorem e_sub {z w : Int} : gSub (.int z) (.int w) = some (.sh (.int (z - w))) := rfl
theorem e_add {z w : Int} : gAdd (.int z) (.int w) = some (.sh (.int (z + w))) := rfl
theorem e_addL {l l' : List D} : gAdd (.lst l) (.lst l') = if l.length + l'.length ≤ 1000000 then some (.fr (l ++ l')) else none := rfl
theorem e_neg {z : Int} : gNeg (.int z) = some (.sh (.int (-z))) := rfl
theorem e_cmp {pr : Int → Int → Bool} {z w : Int} : gCmp pr (.int z) (.int w) = some (.sh (.bl (pr z w))) := rfl
theorem e_ixL {z : Int} : gIx (.lst l) (.int z) = (atI l z).map .sh := rfl
theorem e_ixT {z : Int} : gIx (.tup l) (.int z) = (atI l z).map .sh := rfl
theorem e_ixS {ns : List Int} {z : Int} : gIx (.scr ns) (.int z) = (atI ns z).map fun n => .sh (.int n) := rfl
theorem e_abs {z : Int} : gAbs [.int z] = some (.sh (.int (if z < 0 then -z else z))) := rfl
theorem e_max {z w : Int} : gMax [.int z, .int w] = some (.sh (.int (if w > z then w else z))) := rfl
theorem e_min {z w : Int} : gMin [.int z, .int w] = some (.sh (.int (if w < z then w else z))) := rfl
theorem e_intI {z : Int} : gInt [.int z] = some (.sh (.int z)) := rfl
theorem e_intB : gInt [.bl b] = some (.sh (.int (if b then 1 else 0))) := rfl
theorem e_lenL : gLen [.lst l] = some (.sh (.int l.length)) := rfl
theorem e_lenT : gLen [.tup l] = some (.sh (.int l.length)) := rfl
theorem e_lenS {ns : List Int} : gLen [.scr ns] = some (.sh (.int ns.length)) := rfl
theorem e_isT1 : isT (.int z) = true := rfl
theorem e_isT2 : isT (.tup l) = isTL l := by unfold isT; rfl
theorem e_isT3 : isT (.bl b) = true := rfl
theorem e_isTL1 : isTL [] = true := rfl
theorem e_isTL2 : isTL (d :: ds) = (isT d && isTL ds) := rfl
theorem e_resT1 : resT (.ret (.sh d) l) = (isT d && isTL l) := rfl
theorem e_resT2 : resT (.ret (.fr ds) l) = (isTL ds && isTL l) := rfl
theorem e_R1 {as : M (List Op)} : iR1 as ρ = bnK (fun os ρ => r1K ρ (gets ρ os)) (as ρ) := by
  show bnK (fun o ρ => (jR1 o ρ).map fun ib => .ok ib ρ) (as ρ) = _
  congr 1
  funext os ρ
  unfold jR1 r1K
  generalize gets ρ os = x
  rcases x with _ | x
  · rfl
  · rcases x with _ | ⟨d, x⟩
    · rfl
    · cases d <;> cases x <;> rfl
theorem k_R1 : r1K ρ (some [.int z]) = if RngOk z then some (.ok ⟨rngD 0 z.toNat, []⟩ ρ) else none := by
  show (if RngOk z then some (Itb.mk (rngD 0 z.toNat) []) else none).map (fun ib => Out.ok ib ρ) = _
  by_cases h : RngOk z
  · rw [if_pos h, if_pos h]; rfl
  · rw [if_neg h, if_neg h]; rfl
theorem e_R2 {as : M (List Op)} : iR2 as ρ = bnK (fun os ρ => r2K ρ (gets ρ os)) (as ρ) := rfl
theorem k_R2 {y z : Int} : r2K ρ (some [.int y, .int z]) = if RngOk y ∧ RngOk z then some (.ok ⟨rngD y (z - y).toNat, []⟩ ρ) else none := by
  show (if RngOk y ∧ RngOk z then some (Itb.mk (rngD y (z - y).toNat) []) else none).map (fun ib => Out.ok ib ρ) = _
  by_cases h : RngOk y ∧ RngOk z
  · rw [if_pos h, if_pos h]; rfl
  · rw [if_neg h, if_neg h]; rfl
theorem e_iLs {a : M Op} : iLs a ρ = bnK (fun o ρ => itK ρ (lsOf ρ o)) (a ρ) := rfl
theorem e_iTp {a : M Op} : iTp a ρ = bnK (fun o ρ => tIK ρ (get ρ o)) (a ρ) := by
  show bnK (fun o ρ => (jTp o ρ).map fun ib => .ok ib ρ) (a ρ) = _
  congr 1
  funext o ρ
  unfold jTp tIK
  generalize get ρ o = x
  rcases x with _ | x
  · rfl
  · cases x <;> rfl
theorem k_it {ib : Itb} : itK ρ (some ib) = some (.ok ib ρ) := rfl
theorem k_tI : tIK ρ (some (.tup l)) = some (.ok ⟨l, []⟩ ρ) := rfl
theorem e_lsV : lsOf ρ (.val (.lst l)) = some ⟨l, []⟩ := rfl
theorem e_eqI {i j : Int} : gEq (.int i) (.int j) = some (.sh (.bl (decide (i = j)))) := by
  unfold gEq eqD
  rw [if_pos ⟨rfl, rfl⟩]
  unfold toPy
  by_cases h : i = j <;> simp [PyData.eqv, h]
theorem e_neI {i j : Int} : gNe (.int i) (.int j) = some (.sh (.bl (!decide (i = j)))) := by
  unfold gNe eqD
  rw [if_pos ⟨rfl, rfl⟩]
  unfold toPy
  by_cases h : i = j <;> simp [PyData.eqv, h]
theorem e_eqB {i j : Bool} : gEq (.bl i) (.bl j) = some (.sh (.bl (decide (i = j)))) := by
  unfold gEq eqD
  rw [if_pos ⟨rfl, rfl⟩]
  unfold toPy
  cases i <;> cases j <;> simp [PyData.eqv]
theorem e_neB {i j : Bool} : gNe (.bl i) (.bl j) = some (.sh (.bl (!decide (i = j)))) := by
  unfold gNe eqD
  rw [if_pos ⟨rfl, rfl⟩]
  unfold toPy
  cases i <;> cases j <;> simp [PyData.eqv]
theorem gStr_ok {i : Int} (h : i.natAbs.log2 < 1920) : gStr [.int i] = some (.sh (.str (toString i))) := by
  show (if i.natAbs.log2 < 1920 then some (SV.sh (.str (toString i))) else none) = _
  rw [if_pos h]
theorem isInt_int {i : Int} : isInt (.int i) = true := rfl
theorem isInt_bl : isInt (.bl b) = true := rfl
theorem isInt_str {s : Str} : isInt (.str s) = false := rfl
theorem isInt_non : isInt .non = false := rfl
theorem isInt_tup : isInt (.tup l) = false := rfl
theorem isInt_lst : isInt (.lst l) = false := rfl
theorem isBl_int {i : Int} : isBl (.int i) = false := rfl
theorem isBl_bl : isBl (.bl b) = true := rfl
theorem isBl_tup : isBl (.tup l) = false := rfl
theorem isTup_int {i : Int} : isTup (.int i) = false := rfl
theorem isTup_bl : isTup (.bl b) = false := rfl
theorem isTup_str {s : Str} : isTup (.str s) = false := rfl
theorem isTup_non : isTup .non = false := rfl
theorem isTup_tup : isTup (.tup l) = true := rfl
theorem isTup_lst : isTup (.lst l) = false := rfl
theorem k_turn1 : turnK n (some (.nx ρ)) = n ρ := rfl
theorem k_turn2 : turnK n (some (.ct ρ)) = n ρ := rfl
theorem k_turn3 : turnK n (some (.rt sv ρ)) = some (.rt sv ρ) := rfl
theorem k_turn4 : turnK n (some (.bk ρ)) = some (.nx ρ) := rfl
theorem k_turn5 : turnK n (some (.ex c ρ)) = some (.ex c ρ) := rfl
theorem k_app : mtIK i ρ gApp [.val d] (some (some (.fr l))) = if l.length < 1000000 then some (.ok (.sh .non) (ρ.set i (some (.fr (l ++ [d]))))) else none := by
  rw [k_mtI (ds := [d]) rfl]
  show (if l.length < 1000000 then some (D.non, l ++ [d]) else none).map _ = _
  by_cases h : l.length < 1000000
  · rw [if_pos h, if_pos h]; rfl
  · rw [if_neg h, if_neg h]; rfl
theorem k_ext {l' : List D} : mtIK i ρ gExt [.val (.lst l')] (some (some (.fr l))) = if l.length + l'.length ≤ 1000000 then some (.ok (.sh .non) (ρ.set i (some (.fr (l ++ l'))))) else none := by
  rw [k_mtI (ds := [.lst l']) rfl]
  show (if l.length + l'.length ≤ 1000000 then some (D.non, l ++ l') else none).map _ = _
  by_cases h : l.length + l'.length ≤ 1000000
  · rw [if_pos h, if_pos h]; rfl
  · rw [if_neg h, if_neg h]; rfl
theorem k_rvs : mtIK i ρ gRvs [] (some (some (.fr l))) = some (.ok (.sh .non) (ρ.set i (some (.fr l.reverse)))) := by
  rw [k_mtI (ds := []) rfl]
  rfl
theorem k_pop : mtIK i ρ gPop [] (some (some (.fr l))) = l[l.length - 1]?.map fun d => .ok (.sh d) (ρ.set i (some (.fr l.dropLast))) := by
  rw [k_mtI (ds := []) rfl]
  show (l[l.length - 1]?.map fun d => (d, l.dropLast)).map _ = _
  cases l[l.length - 1]? <;> rfl
theorem e_lsS : lsOf ρ (.slot i) = lxK i ρ[i]? := by
  show (match ρ[i]? with | some (some (.ow (.lst l))) => some (Itb.mk l [(i, l)]) | some (some (.sh (.lst l))) => some (Itb.mk l []) | some (some (.sh (.scr l))) => some (Itb.mk (l.map .int) []) | _ => none) = lxK i ρ[i]?
  generalize ρ[i]? = x
  rcases x with _ | _ | x
  · rfl
  · rfl
  · rcases x with x | x
    · cases x <;> rfl
    · rfl
theorem k_ls1 : lxK i (some (some (.fr l))) = some ⟨l, [(i, l)]⟩ := rfl
theorem k_ls2 : lxK i (some (some (.sh (.lst l)))) = some ⟨l, []⟩ := rfl
theorem k_ls3 {ns : List Int} : lxK i (some (some (.sh (.scr ns)))) = some ⟨ns.map .int, []⟩ := rfl
theorem e_iZp {as : M (List Op)} : iZp as ρ = bnK (fun os ρ => itK ρ (jZp os ρ)) (as ρ) := rfl
theorem e_iEn {as : M (List Op)} : iEn as ρ = bnK (fun os ρ => itK ρ (jEn os ρ)) (as ρ) := rfl
theorem e_iRv {as : M (List Op)} : iRv as ρ = bnK (fun os ρ => itK ρ (jRev os ρ)) (as ρ) := rfl
theorem e_jZp : jZp [o, p] ρ = zpK (lsOf ρ o) (lsOf ρ p) := by
  show ((lsOf ρ o).bind fun x => (lsOf ρ p).map fun y => Itb.mk (zipD x.ds y.ds) (x.pk ++ y.pk)) = _
  unfold zpK
  cases lsOf ρ o <;> cases lsOf ρ p <;> rfl
theorem k_zp {ib jb : Itb} : zpK (some ib) (some jb) = some ⟨zipD ib.ds jb.ds, ib.pk ++ jb.pk⟩ := rfl
theorem e_jEn : jEn [o] ρ = (lsOf ρ o).map fun ib => ⟨enumD 0 ib.ds, ib.pk⟩ := rfl
theorem e_jRev : jRev [o] ρ = (lsOf ρ o).map fun ib => ⟨ib.ds.reverse, ib.pk⟩ := rfl
theorem e_sl {a : M Op} {lo hi : M (Option Int)} : vSl a lo hi ρ = bnK (fun x => bnd lo fun l => bnd hi fun h => lift1 (fun d => gSl d l h) x) (a ρ) := rfl
theorem e_pNo : pNo ρ = some (.ok none ρ) := rfl
theorem e_pIn {f : M SV} : pIn f ρ = pnK (f ρ) := by
  unfold pIn bnd pnK
  cases f ρ with
  | none => rfl
  | some o =>
    cases o with
    | ex c ρ' => rfl
    | ok sv ρ' =>
      cases sv with
      | ow l => rfl
      | sh d => cases d <;> rfl
theorem k_pn : pnK (some (.ok (.sh (.int z)) ρ)) = some (.ok (some z) ρ) := rfl
theorem e_slL {lo hi : Option Int} : gSl (.lst l) lo hi = some (.fr (cutD l lo hi)) := rfl
theorem cut_1 {α : Type} {x : α} {l : List α} : cutD (x :: l) (some 1) none = l := by
  unfold cutD
  have e1 : HT.sIx (x :: l).length 0 (some 1) = 1 := by
    show (if (1 : Int) < 0 then ((1 : Int) + ((x :: l).length : Int)).toNat else min (1 : Int).toNat (x :: l).length) = 1
    rw [if_neg (by decide)]
    show min 1 (l.length + 1) = 1
    omega
  have e2 : HT.sIx (x :: l).length (x :: l).length none = l.length + 1 := rfl
  rw [e1, e2]
  show List.take (l.length + 1 - 1) l = l
  exact List.take_of_length_le (by omega)
/-- what has no dict, not deep -/
theorem okPy_of (h1 : (toPy d).canLay0 = true) (h2 : (toPy d).depth ≤ 64) : okPy d = true := by
  show ((toPy d).canLay0 && decide ((toPy d).depth ≤ 64)) = true
  rw [h1, decide_eq_true h2]
  rfl
theorem canLay_of_okPy (h : okPy d = true) : (toPy d).canLay0 = true := (Bool.and_eq_true_iff.mp h).1
theorem eq_self' (h : okPy d = true) : gEq d d = some (.sh (.bl true)) := by
  unfold gEq eqD
  rw [if_pos ⟨h, h⟩, SeqAt.eqv_refl _ (canLay_of_okPy h)]
theorem ne_self' (h : okPy d = true) : gNe d d = some (.sh (.bl false)) := by
  unfold gNe eqD
  rw [if_pos ⟨h, h⟩, SeqAt.eqv_refl _ (canLay_of_okPy h)]
  rfl
theorem okPy_all {k : Nat} (hk : k < 64) : ∀ {l : List D}, (∀ d ∈ l, (toPy d).canLay0 = true ∧ (toPy d).depth ≤ k) → PyData.canLayAll0 (toPyL l) = true ∧ PyData.depthAll (toPyL l) ≤ k
  | [], _ => ⟨rfl, Nat.zero_le _⟩
  | d :: l, h => by
    have h1 := h d List.mem_cons_self
    have h2 := okPy_all hk (l := l) fun e he => h e (List.mem_cons_of_mem _ he)
    refine ⟨?_, ?_⟩
    · show ((toPy d).canLay0 && PyData.canLayAll0 (toPyL l)) = true
      rw [h1.1, h2.1]
      rfl
    · show max _ _ ≤ k
      exact Nat.max_le.mpr ⟨h1.2, h2.2⟩
theorem isLst_lst : isLst (.lst l) = true := rfl
theorem isLst_tup : isLst (.tup l) = false := rfl
theorem isLst_int : isLst (.int z) = false := rfl
end
end Sim

namespace Sim
open PySem PySem.Spec PyProof.Rows L2
/-! ### max of four whole numbers -/
section
variable {prog : Program} {w : World} {A : Around} {E : Value → Shared → Prop} {s : Shared}
def mx (i j : Int) : Int := if j > i then j else i
end
def gMax4 : List D → Option SV
  | [.int a, .int b, .int c, .int d] => some (.sh (.int (mx (mx (mx a b) c) d)))
  | _ => none
theorem e_max4 {a b c d : Int} : gMax4 [.int a, .int b, .int c, .int d] = some (.sh (.int (mx (mx (mx a b) c) d))) := rfl
end Sim

namespace Sim
open PySem PySem.Spec PyProof.Rows L2
/-! ### list(reversed(list)) -/
section
variable {prog : Program} {w : World} {A : Around} {E : Value → Shared → Prop} {s : Shared}
end
section
variable {X : Cx}
end
section
variable {cv : Nat → Value} {X : Cx} {W : WX} {e a b c tg : Expr} {te ta : TE} {ts : TA} {f : M SV} {fa : M Op} {fs : M (List Op)} {pos pos2 p p2 : Pos}
end
/-! ### list.count of any data -/
def rCntD (K : PySem.W.Frag) : V → List V → Hp → VK → Prop := fun x xs H Q => ∃ (p : Addr) (ys : List V) (k : V) (ds : List PyData) (d : PyData), x = .ref p ∧ xs = [k] ∧ SqL K H p ys ∧ DpAll K H ys ds ∧ Dp K H k d ∧ (∀ e ∈ ds, e.canLay0 = true) ∧ d.canLay0 = true ∧ d.depth ≤ 8 ∧ Q (.int ((ds.countP fun e => PyData.eqv e d : Nat) : Int)) H
section
noncomputable def eqAs (h : Heap) (d : PyData) (y : Value) : Bool := @decide (∃ e as, Reads h y e as ∧ e.canLay0 = true ∧ PyData.eqv e d = true) (Classical.propDecidable _)
theorem eqAs_is {h : Heap} {d e : PyData} {y : Value} {as : List Addr} (r : Reads h y e as) (hl : e.canLay0 = true) : eqAs h d y = PyData.eqv e d := by
  unfold eqAs
  cases he : PyData.eqv e d with
  | true => exact @decide_eq_true _ (Classical.propDecidable _) ⟨e, as, r, hl, he⟩
  | false =>
    refine @decide_eq_false _ (Classical.propDecidable _) fun ⟨e', as', r', _, h'⟩ => ?_
    have hu := SeqAt.plain_unique e e' y as as' (PyData.plain_of_canLay0 e hl) r r'
    rw [hu, h'] at he
    cases he
theorem eqAs_mem {h : Heap} : ∀ {its : List Value} {ds : List PyData} {as : List Addr}, ReadsAll h its ds as → (∀ e ∈ ds, e.canLay0 = true) → ∀ y ∈ its, ∃ e bs, e ∈ ds ∧ Reads h y e bs ∧ e.canLay0 = true
  | _, _, _, .nil, _, y, hy => nomatch hy
  | _, _, _, .cons r t, hc, y, hy => by
    rcases List.mem_cons.mp hy with rfl | hy
    · exact ⟨_, _, List.mem_cons_self, r, hc _ List.mem_cons_self⟩
    · obtain ⟨e, bs, h1, h2, h3⟩ := eqAs_mem t (fun e he => hc e (List.mem_cons_of_mem _ he)) y hy
      exact ⟨e, bs, List.mem_cons_of_mem _ h1, h2, h3⟩
theorem eqAs_count {h : Heap} {d : PyData} : ∀ {its : List Value} {ds : List PyData} {as : List Addr}, ReadsAll h its ds as → (∀ e ∈ ds, e.canLay0 = true) → its.countP (eqAs h d) = ds.countP fun e => PyData.eqv e d
  | _, _, _, .nil, _ => rfl
  | _, _, _, .cons r t, hc => by
    rw [List.countP_cons, List.countP_cons, eqAs_count t (fun e he => hc e (List.mem_cons_of_mem _ he)), eqAs_is r (hc _ List.mem_cons_self)]
end
section
variable {X : Cx}
theorem mt_lcountD (hu : X.A.units + 64 < cLine) : MtR X "list.count" (rCntD X.K) := by
  intro pins s σ H x xs v us Q I rx rxs h
  obtain ⟨p, ys, k, ds, d, rfl, rfl, hs, hds, hd, hc, hcd, hdd, q⟩ := h
  cases rx
  obtain ⟨u, rfl, ru⟩ := rxs.one
  obtain ⟨its, rv, ⟨⟨cls, dd, data, sl⟩, n, ho, hcl, hdn, hdt⟩, hlen⟩ := I.list hs
  simp only at hcl hdt
  subst hcl hdt
  obtain ⟨as, ra⟩ := Dp.readsAll I ds ys its hds rv
  obtain ⟨bs, rb⟩ := Dp.reads I d k u hd ru
  refine call_meets PySem.F.slot_list_count ⟨_, ho, rfl⟩ PySem.F.entry_list_count (PySem.F.args_list_count_2 _ _)
    (SeqAt.list_countAt p its.toArray n dd sl u (eqAs s.heap d)) ⟨ho, fun y hy => ?_, ?_⟩
  · obtain ⟨e, cs, _, re, ce⟩ := eqAs_mem ra hc y (by simpa using hy)
    rw [eqAs_is re ce]
    exact SeqAt.eqAt_reads e d _ _ y u cs bs re rb ce hcd (by
      have h1 : min e.depth d.depth ≤ d.depth := Nat.min_le_right _ _
      show X.A.units + 1 + min e.depth d.depth < cLine
      omega)
  · refine ⟨.int ((ds.countP fun e => PyData.eqv e d : Nat) : Int), H, I.tok _, ⟨s.toks, ?_⟩, q⟩
    have ec : its.toArray.toList.countP (eqAs s.heap d) = ds.countP fun e => PyData.eqv e d := eqAs_count ra hc
    show Value.int ((its.toArray.toList.countP (eqAs s.heap d) : Nat) : Int) s.toks = _
    rw [ec]
end
theorem toPyL_map : ∀ l : List D, toPyL l = l.map toPy
  | [] => rfl
  | d :: l => by
    show toPy d :: toPyL l = _
    rw [toPyL_map l]
    rfl
theorem canAll : ∀ {l : List D}, (l.all fun d => (toPy d).canLay0) = true → PyData.canLayAll0 (toPyL l) = true
  | [], _ => rfl
  | d :: l, h => by
    rw [List.all_cons, Bool.and_eq_true] at h
    show ((toPy d).canLay0 && PyData.canLayAll0 (toPyL l)) = true
    rw [h.1, canAll h.2]
    rfl
/-! ### is None -/
def gIsN : D → D → Option SV
  | .non, .non => some (.sh (.bl true))
  | .lst _, .non => some (.sh (.bl false))
  | .tup _, .non => some (.sh (.bl false))
  | .int _, .non => some (.sh (.bl false))
  | _, _ => none
/-! ### range of three -/
def RgB (i j c : Int) (n : Nat) : Bool := decide (c ≠ 0) && decide (c.natAbs < 1073741824) && Builtin.Range.small i j c && decide (Builtin.Range.rangeSize i j c = n)
theorem RgB.is {i j c : Int} {n : Nat} (h : RgB i j c n = true) : L2.RgC i j c n := by
  unfold RgB at h
  simp only [Bool.and_eq_true, decide_eq_true_eq] at h
  exact ⟨h.1.1.1, h.1.1.2, h.1.2, h.2⟩
def rngC (i c : Int) (n : Nat) : List D := (List.range n).map fun k => .int (i + (k : Nat) * c)
def jR3 (os : List Op) (ρ : Sl) : Option Itb := match gets ρ os with
  | some [.int i, .int j, .int c] => if RgB i j c (Builtin.Range.rangeSize i j c).toNat = true then some ⟨rngC i c (Builtin.Range.rangeSize i j c).toNat, []⟩ else none
  | _ => none
def iR3 (as : M (List Op)) : M Itb := liftI as jR3
section
variable {cv : Nat → Value} {X : Cx} {W : WX} {a b c tg : Expr} {ts : TA} {fs : M (List Op)} {pos p : Pos}
end
section
variable {K : PySem.W.Frag}
theorem ok_isN : Ok2 K (fun x y H Q => y = .non ∧ Q (.bl (decide (x = .non))) H) gIsN := by
  intro F B H σ ρ x y dx dy sv Q R hx hy hg q
  unfold gIsN at hg
  have nr : ∀ {v : V}, OpRep K B H v .non → v = .non := fun h => by
    have r := h.rep R.exB
    cases r
    rfl
  split at hg
  · cases hg
    rw [nr hx, nr hy]
    exact ⟨rfl, q _ B H R (Same.refl _) (.sh (.bl _))⟩
  · cases hg
    rw [nr hy]
    obtain ⟨a, xs, rfl, _, _⟩ := hx.lst R.exB
    exact ⟨rfl, q _ B H R (Same.refl _) (.sh (.bl _))⟩
  · cases hg
    rw [nr hy]
    obtain ⟨a, xs, rfl, _, _⟩ := hx.tup R.exB
    exact ⟨rfl, q _ B H R (Same.refl _) (.sh (.bl _))⟩
  · cases hg
    rw [nr hy]
    cases hx.int
    exact ⟨rfl, q _ B H R (Same.refl _) (.sh (.bl _))⟩
  · cases hg
end
/-! ### a method that changes nothing, of any value -/
def ckL : D → Bool
  | .lst _ => true
  | .scr _ => true
  | _ => false
def ckS : D → Bool
  | .str _ => true
  | _ => false
def CkTy (K : PySem.W.Frag) (T : String) (ck : D → Bool) : Prop := ∀ (B H : Hp) (v : V) (d : D), Same B H → OpRep K B H v d → ck d = true → tyV K T v H
theorem ck_lst {K : PySem.W.Frag} : CkTy K "list" ckL := fun B H v d e r h => by
  cases d <;> try cases h
  · obtain ⟨a, xs, rfl, h1, _⟩ := r.lst e
    exact .inl ⟨rfl, _, SqL.of h1⟩
  · obtain ⟨a, rfl, h1⟩ := r.scr e
    exact .inl ⟨rfl, _, h1⟩
theorem ck_str {K : PySem.W.Frag} : CkTy K "str" ckS := fun B H v d e r h => by
  cases d <;> try cases h
  rw [r.str]
  rfl
def OkP (K : PySem.W.Frag) (r : V → List V → Hp → VK → Prop) (g : D → List D → Option SV) : Prop :=
  ∀ (F B H : Hp) (σ : L2.St) (ρ : Sl) (x : V) (xs : List V) (dx : D) (ds : List D) (sv : SV) (Q : VK), Rel K F B H σ ρ → OpRep K B H x dx → OpReps K B H xs ds → g dx ds = some sv →
    (∀ v B' H', Rel K F B' H' σ ρ → Same B B' → RV K F B' H' σ ρ v sv → Q v H') → r x xs H Q
def mfK (g : D → List D → Option SV) (ρ : Sl) : Option D → Option (List D) → Option (Out SV)
  | some x, some xs => okK ρ (g x xs)
  | _, _ => none
def mpF (g : D → List D → Option SV) (o : Op) (os : List Op) : M SV := fun ρ => mfK g ρ (get ρ o) (gets ρ os)
def ckO (ck : D → Bool) : Option D → Bool
  | some d => ck d
  | none => false
def mpN (ck : D → Bool) (g : D → List D → Option SV) (fs : M (List Op)) (o : Op) : M SV := fun ρ => if ckO ck (get ρ o) = true then bnd fs (mpF g o) ρ else none
def vMp (ck : D → Bool) (g : D → List D → Option SV) (fo : M Op) (fs : M (List Op)) : M SV := bnd fo (mpN ck g fs)
section
variable {cv : Nat → Value} {X : Cx} {W : WX} {e o : Expr} {es : List Expr} {to : TE} {ts : TA} {fo : M Op} {fs : M (List Op)} {pos apos : Pos} {T : String} {ck : D → Bool} {r : V → List V → Hp → VK → Prop} {g : D → List D → Option SV}
theorem adm_mp (hk : CkTy X.K T ck) (ok : OkP X.K r g) (ho : SndO cv X W o to fo) (ha : SndA cv X W es ts fs) : Adm cv W X.K (tBM X.K T r to ts) (vMp ck g fo fs) (RV X.K) := by
  intro F B H σ ρ Q R q
  refine ho.ad F B H σ ρ _ R (wpm_mono (wpm_bnd q) (fun o ρ1 q v B1 H1 R1 sm1 ov => ?_) fun _ _ q => q)
  unfold wpm mpN at q
  cases e0 : get ρ1 o with
  | none =>
    rw [e0] at q
    exact q.elim
  | some d =>
    by_cases hc : ck d = true
    · have hc' : ckO ck (get ρ1 o) = true := by rw [e0]; exact hc
      rw [if_pos hc'] at q
      refine ⟨hk B1 H1 v d R1.exB (ov.rep R1 e0) hc, ?_⟩
      refine ha.ad F B1 H1 σ ρ1 _ R1 (wpm_mono (wpm_bnd q) (fun os ρ2 q vs B2 H2 R2 sm2 ovs => ?_) fun c ρ2 q B2 H2 R2 sm2 => q B2 H2 R2 (sm1.trans sm2))
      unfold wpm at q
      cases e1 : get ρ2 o with
      | none =>
        have em : mpF g o os ρ2 = none := by
          unfold mpF
          rw [e1]
          rfl
        rw [em] at q
        exact q.elim
      | some x =>
        cases e2 : gets ρ2 os with
        | none =>
          have em : mpF g o os ρ2 = none := by
            unfold mpF
            rw [e1, e2]
            rfl
          rw [em] at q
          exact q.elim
        | some xs =>
          cases e3 : g x xs with
          | none =>
            have em : mpF g o os ρ2 = none := by
              unfold mpF
              rw [e1, e2]
              show (g x xs).map _ = _
              rw [e3]
              rfl
            rw [em] at q
            exact q.elim
          | some sv =>
            have em : mpF g o os ρ2 = some (.ok sv ρ2) := by
              unfold mpF
              rw [e1, e2]
              show (g x xs).map _ = _
              rw [e3]
              rfl
            rw [em] at q
            exact ok F B2 H2 σ ρ2 v vs x xs sv Q R2 ((ov.mono sm2).rep R2 e1) (ovs.rep R2 e2) e3 fun v' B' H' R' sm' rv => q v' B' H' R' ((sm1.trans sm2).trans sm') rv
    · have hc' : ¬ ckO ck (get ρ1 o) = true := by rw [e0]; exact hc
      rw [if_neg hc'] at q
      exact q.elim
theorem snd_mp {name : Str} {id : String} (pa : PlainAttrs T) (slot : Slot T name id) (hty : typeOf (.builtin id) = pure (.type "method_descriptor")) (hm : MtR X id r) (hk : CkTy X.K T ck) (ok : OkP X.K r g) (ho : SndO cv X W o to fo) (ha : SndA cv X W (e :: es) ts fs)
    (hbase : attributeBase o name X.env (eval o X.env) = eval o X.env := by rfl)
    (hfew : ((backTo pos (starEach (e :: es) X.env)).all (fun x => !x.1) && (backToKw pos (keywordEach [] X.env)).all (fun x => x.1.isSome) && decide ((e :: es).length + ([] : List Keyword).length + (if ([] : List Keyword).isEmpty then 0 else 1) < 30)) = true := by rfl)
    (hline : (apos.endLine == pos.line) = true := by rfl) (hst : starEach (e :: es) X.env = (false, eval e X.env) :: starEach es X.env := by rfl) (hpl : (backTo pos (starEach es X.env)).any (·.1) = false := by rfl) :
    SndE cv X W (.Call (.Attribute o name apos) (e :: es) [] pos) (tBM X.K T r to ts) (vMp ck g fo fs) := ⟨pe_bm pa slot hty hm ho.pe ha.pa hbase hfew hline hst hpl, adm_mp hk ok ho ha⟩
end
def gCn : D → List D → Option SV
  | .lst l, [x] => if (l.all fun d => (toPy d).canLay0) = true ∧ (toPy x).canLay0 = true ∧ (toPy x).depth ≤ 8 then some (.sh (.int ((l.countP fun d => eqD d x : Nat) : Int))) else none
  | _, _ => none
theorem ok_cn {K : PySem.W.Frag} : OkP K (rCntD K) gCn := by
  intro F B H σ ρ x xs dx ds sv Q R hx hxs hg q
  unfold gCn at hg
  split at hg
  · rename_i l y
    split at hg
    · rename_i hc
      cases hg
      obtain ⟨a, ys, rfl, h1, r1⟩ := hx.lst R.exB
      obtain ⟨v, rfl, rv⟩ := hxs.one
      refine ⟨a, ys, v, toPyL l, toPy y, rfl, rfl, SqL.of h1, RepL.dp _ _ (canAll hc.1) (RepL.mono R.exB _ _ r1), Rep.dp _ _ hc.2.1 (rv.rep R.exB), ?_, hc.2.1, hc.2.2, ?_⟩
      · intro e he
        rw [toPyL_map] at he
        obtain ⟨y, hy, rfl⟩ := List.mem_map.mp he
        exact List.all_eq_true.mp hc.1 y hy
      · rw [toPyL_map, List.countP_map]
        exact q _ B H R (Same.refl _) (.sh (.int _))
    · cases hg
  · cases hg
/-! ### runs -/
section
variable {ρ : Sl} {o : Op} {os : List Op} {ck : D → Bool} {g : D → List D → Option SV} {x : D} {xs : List D} {fo : M Op} {fs : M (List Op)}
theorem e_mp : vMp ck g fo fs ρ = bnK (mpN ck g fs) (fo ρ) := rfl
theorem e_mpN : mpN ck g fs o ρ = if ckO ck (get ρ o) = true then bnd fs (mpF g o) ρ else none := rfl
theorem e_mpF : mpF g o os ρ = mfK g ρ (get ρ o) (gets ρ os) := rfl
theorem k_mf : mfK g ρ (some x) (some xs) = okK ρ (g x xs) := rfl
theorem k_ck : ckO ck (some x) = ck x := rfl
theorem ckL_1 {l : List D} : ckL (.lst l) = true := rfl
theorem ckS_1 {s : Str} : ckS (.str s) = true := rfl
theorem e_revL {fa : M Op} : vRevL fa = vOp1 gRv fa := rfl
theorem e_gRv {l : List D} : gRv (.lst l) = some (.fr l.reverse) := rfl
theorem e_iR3 {as : M (List Op)} : iR3 as ρ = bnK (fun os ρ => itK ρ (jR3 os ρ)) (as ρ) := rfl
def r3K : Option (List D) → Option Itb
  | some [.int i, .int j, .int c] => if RgB i j c (Builtin.Range.rangeSize i j c).toNat = true then some ⟨rngC i c (Builtin.Range.rangeSize i j c).toNat, []⟩ else none
  | _ => none
theorem e_jR3 : jR3 os ρ = r3K (gets ρ os) := rfl
theorem k_R3 {i j c : Int} : r3K (some [.int i, .int j, .int c]) = if RgB i j c (Builtin.Range.rangeSize i j c).toNat = true then some ⟨rngC i c (Builtin.Range.rangeSize i j c).toNat, []⟩ else none := rfl
theorem isN_1 : gIsN .non .non = some (.sh (.bl true)) := rfl
theorem isN_2 {l : List D} : gIsN (.lst l) .non = some (.sh (.bl false)) := rfl
end
end Sim

namespace Sim
open PySem PySem.Spec PyProof.Rows L2
/-! ### a call that is handed a new list, to be changed and then forgotten -/
section
variable {K : PySem.W.Frag} {F B H : Hp} {σ : L2.St} {ρ : Sl}
theorem Rel.push {a : Addr} {xs : List V} {l : List D} (R : Rel K F B H σ ρ) (hF : F a = none) (hB : B a = none) (hH : H a = some (.lst xs)) (r : RepL K B xs l) (no : ∀ i, ¬ Owns σ ρ i a) : Rel K F B H (σ ++ [some (.ref a)]) (ρ ++ [some (.fr l)]) := by
  have hl := R.len
  have bk : ∀ {i : Nat} {b : Addr}, Owns (σ ++ [some (.ref a)]) (ρ ++ [some (.fr l)]) i b → (Owns σ ρ i b ∧ i < ρ.length) ∨ (i = ρ.length ∧ b = a) := fun {i b} o => by
    obtain ⟨⟨l', h1⟩, h2⟩ := o
    by_cases hi : i < ρ.length
    · rw [List.getElem?_append_left hi] at h1
      rw [List.getElem?_append_left (by omega)] at h2
      exact .inl ⟨⟨⟨l', h1⟩, h2⟩, hi⟩
    · have hi2 : i < (ρ ++ [some (SV.fr l)]).length := (List.getElem?_eq_some_iff.mp h1).1
      rw [List.length_append, List.length_cons, List.length_nil] at hi2
      have e : i = ρ.length := by omega
      subst e
      rw [List.getElem?_append_right (by omega), show ρ.length - σ.length = 0 by omega] at h2
      cases h2
      exact .inr ⟨rfl, rfl⟩
  refine ⟨R.exB, R.exF, R.dis, by rw [List.length_append, List.length_append, hl]; rfl, fun i sv h => ?_, fun i j b o1 o2 => ?_, R.tb⟩
  · by_cases hi : i < ρ.length
    · rw [List.getElem?_append_left hi] at h
      rw [List.getElem?_append_left (by omega)]
      exact R.slot i sv h
    · have hi2 : i < (ρ ++ [some (SV.fr l)]).length := (List.getElem?_eq_some_iff.mp h).1
      rw [List.length_append, List.length_cons, List.length_nil] at hi2
      have e : i = ρ.length := by omega
      subst e
      rw [List.getElem?_append_right (by omega), show ρ.length - ρ.length = 0 by omega] at h
      cases h
      rw [List.getElem?_append_right (by omega), show ρ.length - σ.length = 0 by omega]
      exact .fr hF hB hH rfl r
  · rcases bk o1 with ⟨p1, i1⟩ | ⟨rfl, rfl⟩ <;> rcases bk o2 with ⟨p2, i2⟩ | ⟨rfl, e⟩
    · exact R.sep i j b p1 p2
    · subst e
      exact (no _ p1).elim
    · exact (no _ p2).elim
    · rfl
end
def cfK (ρ : Sl) : Option CR → Option (Out SV)
  | some (.ret r _) => some (.ok r ρ)
  | _ => none
def vCallFK (Φ : List D → Option CR) (sv : SV) : M SV := fun ρ => match sv with
  | .ow (.lst l) => cfK ρ (Φ [.lst l])
  | _ => none
def vCallF (Φ : List D → Option CR) (f : M SV) : M SV := bnd f (vCallFK Φ)
section
variable {cv : Nat → Value} {X : Cx} {W : WX} {e : Expr} {te : TE} {f : M SV} {pos p : Pos}
end
theorem e_callF {Φ : List D → Option CR} {f : M SV} {ρ : Sl} : vCallF Φ f ρ = bnK (vCallFK Φ) (f ρ) := rfl
theorem k_callF {Φ : List D → Option CR} {l : List D} {ρ : Sl} : vCallFK Φ (.fr l) ρ = cfK ρ (Φ [.lst l]) := rfl
theorem k_cf {r : SV} {out : List D} {ρ : Sl} : cfK ρ (some (.ret r out)) = some (.ok r ρ) := rfl
end Sim

namespace Sim
open PySem PySem.Spec PyProof.Rows L2
/-! ### dicts whose keys are tuples of whole numbers: read alone -/
section
variable {X : Cx} {pins : List (Addr × Obj)} {σ : L2.St} {H : Hp} {s : Shared} {a b : Addr}
end
def dctV (ks : List (List Int)) (vs : List D) (k : List Int) : Option D := (ks.zip vs).lookup k
def gIn (neg : Bool) : D → D → Option SV
  | .tup l, .dct ks _ => (intL l).map fun k => .sh (.bl (neg ^^ decide (k ∈ ks)))
  | _, _ => none
def gDx : D → D → Option SV
  | .dct ks vs, .tup l => (intL l).bind fun k => (dctV ks vs k).map .sh
  | _, _ => none
section
variable {K : PySem.W.Frag} {H : Hp}
theorem OpRep.dct {B : Hp} {v : V} (e : Same B H) {ks : List (List Int)} {vs : List D} (h : OpRep K B H v (.dct ks vs)) : ∃ a xs, v = .ref a ∧ H a = some (.dT ((ks.map keyL).zip xs)) ∧ ks.length = vs.length ∧ RepL K B xs vs := by
  cases h with
  | sh r =>
    cases r with
    | dct h hl r => exact ⟨_, _, rfl, e _ _ h, hl, r⟩
  | @own a o xs c _ hB hH hO r e =>
    cases c with
    | dt ks' vs' =>
      cases e
      obtain ⟨rfl, hl⟩ := hO
      exact ⟨_, _, rfl, hH, hl, r⟩
    | lst _ => cases e
    | dk _ _ => cases e
    | ob _ _ _ => cases e
end
section
variable {cv : Nat → Value} {X : Cx} {W : WX} {a b : Expr} {ta tb : TE} {fa fb : M Op} {pos : Pos}
end
/-! ### instances: read alone -/
def gFld0 (c f : Str) : D → Option SV
  | .ob c' ns fs => if c' = c then ((ns.zip fs).lookup f).map .sh else none
  | _ => none
def obF : D → D
  | .lv n => lvFull n
  | d => d
def gFld (c f : Str) (d : D) : Option SV := gFld0 c f (obF d)
theorem obF_cases (d : D) : (∃ n, d = .lv n ∧ obF d = lvFull n) ∨ obF d = d := by
  cases d with
  | lv n => exact .inl ⟨n, rfl, rfl⟩
  | _ => exact .inr rfl
section
variable {K : PySem.W.Frag} {H : Hp}
theorem OpRep.lvF {B : Hp} {v : V} {n : Int} (h : OpRep K B H v (.lv n)) : OpRep K B H v (lvFull n) := by
  cases h with
  | sh r => exact .sh r.full
  | @own a o xs c _ hB hH hO r e => cases c <;> cases e
theorem OpRep.ob {B : Hp} {v : V} (e : Same B H) {c : Str} {ns : List Str} {fs : List D} (h : OpRep K B H v (.ob c ns fs)) : ∃ a C dx xs, v = .ref a ∧ PySem.W.nsIn K mainGlobals c = some (some (.ref C)) ∧ H a = some (.ins C dx (ns.zip xs)) ∧ ns.length = fs.length ∧ RepL K B xs fs := by
  cases h with
  | sh r =>
    cases r with
    | ob hc h hl r => exact ⟨_, _, _, _, rfl, hc, e _ _ h, hl, r⟩
  | @own a o xs cc _ hB hH hO r e =>
    cases cc with
    | ob c' ns' fs' =>
      cases e
      obtain ⟨C, dx, hc, rfl, hl⟩ := hO
      exact ⟨_, _, _, _, rfl, hc, hH, hl, r⟩
    | lst _ => cases e
    | dk _ _ => cases e
    | dt _ _ => cases e
end
section
variable {cv : Nat → Value} {X : Cx} {W : WX} {e : Expr} {es : List Expr} {te : TE} {ts : TA} {fe : M Op} {fs : M (List Op)} {pos apos : Pos} {C : Addr} {c f m : Str}
theorem OpRep.obF {K : PySem.W.Frag} {B H : Hp} {v : V} {d : D} (h : OpRep K B H v d) : OpRep K B H v (Sim.obF d) := by
  rcases obF_cases d with ⟨n, rfl, e⟩ | e
  · rw [e]
    exact h.lvF
  · rw [e]
    exact h
end
/-! ### a method of an instance -/
def isOb0 (c m : Str) : D → Bool
  | .ob c' ns _ => decide (c' = c) && !(ns.contains m)
  | _ => false
def isOb (c m : Str) : Option D → Bool
  | some d => isOb0 c m (obF d)
  | none => false
def okO : Option (Out SV) → Option (Out SV)
  | some (.ok a ρ) => some (.ok a ρ)
  | _ => none
def mtC (n : Nat) (Φ : List D → Option CR) (o : Op) (os : List Op) : M SV := fun ρ => if os.length = n then okO (callM none Φ (o :: os) ρ) else none
def mtO (c m : Str) (n : Nat) (Φ : List D → Option CR) (fs : M (List Op)) (o : Op) : M SV := fun ρ => if isOb c m (get ρ o) = true then bnd fs (mtC n Φ o) ρ else none
def vMeth (c m : Str) (n : Nat) (Φ : List D → Option CR) (fo : M Op) (fs : M (List Op)) : M SV := bnd fo (mtO c m n Φ fs)
section
variable {cv : Nat → Value} {X : Cx} {W : WX} {o e : Expr} {es : List Expr} {to : TE} {ts : TA} {fo : M Op} {fs : M (List Op)} {pos apos : Pos} {C : Addr} {c m : Str}
end
/-! ### an instance made: all that is new is shared from then on -/
def NewR (K : PySem.W.Frag) (B H H' : Hp) (x : Addr) (v : V) (d : D) : Prop := Rep K (fun a => if a = x ∨ H a = none then H' a else B a) v d
theorem NewR.of {K : PySem.W.Frag} {B H H' : Hp} {x : Addr} {v : V} {d : D} (h : Rep K (fun a => if a = x ∨ H a = none then H' a else none) v d) : NewR K B H H' x v d :=
  Rep.mono (fun a o e => by
    by_cases hc : a = x ∨ H a = none
    · simp only [if_pos hc] at e ⊢
      exact e
    · simp only [if_neg hc] at e
      cases e) _ _ h
section
variable {cv : Nat → Value} {X : Cx} {W : WX} {e : Expr} {es : List Expr} {ts : TA} {fs : M (List Op)} {pos p : Pos} {C f : Addr} {c : Str}
def mkO (n : Nat) (Φ : List D → Option D) (ρ : Sl) : Option (List D) → Option (Out SV)
  | some ds => if ds.length = n then (Φ ds).map fun d => .ok (.sh d) ρ else none
  | none => none
def vMk (n : Nat) (Φ : List D → Option D) (fs : M (List Op)) : M SV := bnd fs fun os ρ => mkO n Φ ρ (vals os)
end
def mkQ (ρ : Sl) : Option D → Option (Out SV)
  | some d => some (.ok (.sh d) ρ)
  | none => none
section
variable {ρ : Sl} {o : Op} {os : List Op} {fo : M Op} {fs : M (List Op)} {c m f : Str} {n : Nat} {Φ : List D → Option CR} {Ψ : List D → Option D}
theorem e_meth : vMeth c m n Φ fo fs ρ = bnK (mtO c m n Φ fs) (fo ρ) := rfl
theorem e_mtO : mtO c m n Φ fs o ρ = if isOb c m (get ρ o) = true then bnd fs (mtC n Φ o) ρ else none := rfl
theorem k_isOb {ns : List Str} {fd : List D} : isOb c m (some (.ob c ns fd)) = !(ns.contains m) := by
  show (decide (c = c) && _) = _
  rw [decide_eq_true rfl, Bool.true_and]
theorem e_mtC : mtC n Φ o os ρ = if os.length = n then okO (callM none Φ (o :: os) ρ) else none := rfl
theorem k_okO {sv : SV} : okO (some (.ok sv ρ)) = some (.ok sv ρ) := rfl
theorem e_mk : vMk n Ψ fs ρ = bnK (fun os ρ => mkO n Ψ ρ (vals os)) (fs ρ) := rfl
theorem k_mk {ds : List D} : mkO n Ψ ρ (some ds) = if ds.length = n then mkQ ρ (Ψ ds) else none := by
  show (if ds.length = n then (Ψ ds).map (fun d => Out.ok (SV.sh d) ρ) else none) = _
  cases Ψ ds <;> rfl
theorem k_mkQ {d : D} : mkQ ρ (some d) = some (.ok (.sh d) ρ) := rfl
theorem k_fld {ns : List Str} {fd : List D} : gFld c f (.ob c ns fd) = ((ns.zip fd).lookup f).map .sh := by
  show (if c = c then _ else none) = _
  rw [if_pos rfl]
end
end Sim

namespace Sim
open PySem PySem.Spec PyProof.Rows L2
/-! ### classes as the top has made them -/
structure ClsIs (K : PySem.W.Frag) (mg : Str → Option Value) (c : Str) (C : Addr) : Prop where
  hC : PySem.W.nsIn K mainGlobals c = some (some (.ref C))
  cl : Cls K C
  mgC : mg c = some (.ref C)
  mks : PySem.W.makesIn K C = true
  kp : PySem.W.keepIn K (.ref C) = true
def FldAt (K : PySem.W.Frag) (c f : Str) : Prop := ∃ C, PySem.W.nsIn K mainGlobals c = some (some (.ref C)) ∧ Cls K C ∧ NoAttr K C f
def MethAt (K : PySem.W.Frag) (c m : Str) (st : Stmt) (ps : List Str) : Prop := ∃ C f fd, PySem.W.nsIn K mainGlobals c = some (some (.ref C)) ∧ Cls K C ∧ Meth K C m f ∧ Fun K m (c ++ "." ++ m) st f fd ∧ Binds K fd ps []
section
variable {K : PySem.W.Frag} {h : Heap} {mg : Str → Option Value} {c : Str} {C : Addr} {R : Prop}
theorem MethAt.mk {m : Str} {st : Stmt} {ps : List Str} (I : ClsIs K mg c C) (M : MethAt K c m st ps) : ∃ f fd, Meth K C m f ∧ Fun K m (c ++ "." ++ m) st f fd ∧ Binds K fd ps [] := by
  obtain ⟨C', f, fd, h1, _, h2, h3, h4⟩ := M
  have e := I.hC
  rw [h1] at e
  cases e
  exact ⟨f, fd, h2, h3, h4⟩
end
end Sim

namespace Sim
open PySem PySem.Spec PyProof.Rows L2
/-! ### the levels, as plain data -/
def dtP (ps : List (List Int × Int)) : List (List L2.Key × V) := ps.map fun p => (keyL p.1, V.int p.2)
/-! ### the promise of take -/
def lvF (n : Int) (kA nA tA : Addr) : List (Str × V) := [("n", .int n), ("kinds", .ref kA), ("numbers", .ref nA), ("times", .ref tA)]
theorem FldAt.na {K : PySem.W.Frag} {mg : Str → Option Value} {c f : Str} {C : Addr} (I : ClsIs K mg c C) (F : FldAt K c f) : NoAttr K C f := by
  obtain ⟨C', h1, _, h3⟩ := F
  have e := I.hC
  rw [h1] at e
  cases e
  exact h3
end Sim

namespace Sim
open PySem PySem.Spec PyProof.Rows L2
/-! ### for Level.__init__ -/
def newP (H0 H : Hp) (x : Addr) : Hp := fun a => if a = x ∨ H0 a = none then H a else none
theorem newP_at {H0 H : Hp} {x a : Addr} (h : a = x ∨ H0 a = none) : newP H0 H x a = H a := if_pos h
abbrev kD (ks : List (Int × Int)) : List D := ks.map fun q => D.tup [.int q.1, .int q.2]
theorem kD_T : ∀ ks : List (Int × Int), isTL (kD ks) = true
  | [] => rfl
  | q :: ks => kD_T ks
/-- what stands while the symbols are laid in -/
structure LvI (K : PySem.W.Frag) (C x dx kA nA tA : Addr) (n : Int) (T : List Int) (H0 H : Hp) (s : List (Int × Int) × List (List Int × Int)) : Prop where
  ox : H x = some (.ins C dx (lvF n kA nA tA))
  on : H nA = some (.dT (dtP s.2))
  ot : H tA = some (.lst (T.map V.int))
  ok : ∃ xs, H kA = some (.lst xs) ∧ RepL K (newP H0 H x) xs (kD s.1)
  kp : ∀ b o, H0 b = some o → b ≠ x → ¬ inT b → H b = some o
  tb : LamX.Tabs lamT H
  t0 : LamX.Tabs lamT H0
section
variable {K : PySem.W.Frag} {C x dx kA nA tA : Addr} {n : Int} {T : List Int} {H0 H H' : Hp} {s : List (Int × Int) × List (List Int × Int)}
theorem LvI.mono (I : LvI K C x dx kA nA tA n T H0 H s) (e : SameN H H') (tb : LamX.Tabs lamT H') : LvI K C x dx kA nA tA n T H0 H' s := by
  obtain ⟨xs, h1, h2⟩ := I.ok
  refine ⟨e _ _ I.ox (notT I.tb I.ox), e _ _ I.on (notT I.tb I.on), e _ _ I.ot (notT I.tb I.ot), ⟨xs, e _ _ h1 (notT I.tb h1), RepL.tmono (fun a ys q => ?_) _ _ (kD_T _) h2⟩, fun b o h hb nt => e _ _ (I.kp b o h hb nt) nt, tb, I.t0⟩
  unfold newP at q ⊢
  split at q
  · rename_i hc
    rw [if_pos hc]
    exact e a _ q (notT I.tb q)
  · cases q
theorem LvI.put {xs : List V} {t : Addr} {u v : Int} {ps : List (List Int × Int)} (I : LvI K C x dx kA nA tA n T H0 H s) (hk : H kA = some (.lst xs)) (hr : RepL K (newP H0 H x) xs (kD s.1)) (k0 : H0 kA = none) (n0 : H0 nA = none) (xk : x ≠ kA) (xn : x ≠ nA) (tk : tA ≠ kA) (tn : tA ≠ nA)
    (h1 : H' t = some (.tup [.int u, .int v])) (h2 : H t = none) (h3 : H' kA = some (.lst (xs ++ [.ref t]))) (h4 : H' nA = some (.dT (dtP ps))) (h5 : ∀ b o, H b = some o → b ≠ kA → b ≠ nA → H' b = some o) : LvI K C x dx kA nA tA n T H0 H' (s.1 ++ [(u, v)], ps) := by
  have ht0 : H0 t = none := by
    cases e : H0 t with
    | none => rfl
    | some o =>
      by_cases h : t = x
      · subst h
        rw [I.ox] at h2
        cases h2
      · by_cases z : inT t
        · exact (notT_none I.tb h2 z).elim
        · rw [I.kp _ _ e h z] at h2
          cases h2
  refine ⟨h5 _ _ I.ox xk xn, h4, h5 _ _ I.ot tk tn, ⟨_, h3, ?_⟩, fun b o h hb nt => h5 _ _ (I.kp b o h hb nt) (ne_of_none h k0) (ne_of_none h n0), tabs_of I.tb (fun b o h np => h5 b o h (fun z => ?_) fun z => ?_), I.t0⟩
  rotate_left
  · rw [z, hk] at h
    cases h
    exact np plain_lst
  · rw [z, I.on] at h
    cases h
    exact np plain_dT
  have e1 : RepL K (newP H0 H' x) xs (kD s.1) := RepL.tmono (fun a ys q => by
    unfold newP at q ⊢
    split at q
    · rename_i hc
      rw [if_pos hc]
      exact h5 _ _ q (ne_of q hk (by intro z; cases z)) (ne_of q I.on (by intro z; cases z))
    · cases q) _ _ (kD_T _) hr
  have e2 : kD (s.1 ++ [(u, v)]) = kD s.1 ++ [D.tup [.int u, .int v]] := List.map_append
  show RepL K (newP H0 H' x) (xs ++ [.ref t]) (kD (s.1 ++ [(u, v)]))
  rw [e2]
  exact e1.append (.cons (.tup (.inl (by rw [newP_at (.inr ht0)]; exact h1)) (.cons (.int u) (.cons (.int v) .nil))) .nil)
theorem dtP_zip : ∀ ps : List (List Int × Int), dtP ps = ((ps.map (·.1)).map keyL).zip (ps.map fun p => V.int p.2)
  | [] => rfl
  | p :: ps => by
    show (keyL p.1, V.int p.2) :: dtP ps = (keyL p.1, V.int p.2) :: _
    rw [dtP_zip ps]
    rfl
theorem ints_rep {H : Hp} : ∀ ps : List (List Int × Int), RepL K H (ps.map fun p => V.int p.2) (ps.map fun p => D.int p.2)
  | [] => .nil
  | p :: ps => .cons (.int _) (ints_rep ps)
theorem LvI.fin (I : LvI K C x dx kA nA tA n (lvT n) H0 H (lvEnd n)) (hC : PySem.W.nsIn K mainGlobals "Level" = some (some (.ref C))) (k0 : H0 kA = none) (n0 : H0 nA = none) (t0 : H0 tA = none) {B : Hp} : NewR K B H0 H x (.ref x) (lvOb n) := by
  refine NewR.of ?_
  obtain ⟨xs, h1, h2⟩ := I.ok
  have e1 : newP H0 H x x = some (.ins C dx (lvNames.zip [.int n, .ref kA, .ref nA, .ref tA])) := by
    rw [newP_at (.inl rfl)]
    exact I.ox
  have e2 : newP H0 H x kA = some (.lst xs) := by
    rw [newP_at (.inr k0)]
    exact h1
  have e3 : newP H0 H x nA = some (.dT ((((lvEnd n).2.map (·.1)).map keyL).zip ((lvEnd n).2.map fun p => V.int p.2))) := by
    rw [newP_at (.inr n0), ← dtP_zip]
    exact I.on
  have e4 : newP H0 H x tA = some (.lst ((lvT n).map V.int)) := by
    rw [newP_at (.inr t0)]
    exact I.ot
  exact Rep.lv_of (.ob hC e1 rfl (.cons (.int n) (.cons (.lst e2 h2) (.cons (.dct e3 (by rw [List.length_map, List.length_map]) (ints_rep _)) (.cons (.lst e4 (RepL.ints _)) .nil)))))
end
end Sim


namespace Sim
open PySem PySem.Spec PyProof.Rows L2
/-! ### the levels' data, told fast -/
end Sim

namespace Sim
open PySem PySem.Spec PyProof.Rows L2
/-! ### errors of the text's own classes -/
structure ExcIs (K : PySem.W.Frag) (mg : Str → Option Value) (x : Str) (C : Addr) : Prop where
  mgC : mg x = some (.ref C)
  xC : PySem.W.excIn K C [.type "ValueError", .type "Exception", .type "BaseException", .type "object"] "ValueError.__new__" = true
  kC : PySem.W.keepIn K (.ref C) = true
  bC : PySem.W.subIn K (.ref C) (.type "BaseException") = some true
  tC : PySem.W.typeIn K (.ref C) = some (.type "type")
  ec : ExcC K C
section
variable {cv : Nat → Value} {X : Cx} {W : WX} {x m : Str} {C : Addr} {p p2 pos pos2 : Pos} {c j : Nat}
theorem sns_raiseOwn (I : ExcIs X.K X.mg x C) (hcv : cv c = .ref C) (hc : X.calm = true) (tk : L2N.Takes X W) (hg : Gl X x) (hdb : (x == ("__debug__" : Str)) = false := by decide) :
    SndS cv X W (.Raise (some (.Call (.Name x p) [.Constant (.str m) j p2] [] pos2)) none pos) (fun _ σ H => W (cv c) none σ H) (sRaise c) [] :=
  sns_raise hc tk (by rw [hcv]; exact L2N.pmk_own PySem.F.excBase_ValueError I.xC I.mgC I.kC (raises_own I.bC I.tC) hg hdb)
end

/-! ### a def called where an error is handled: it sees the error, and raises nothing -/
structure FnX (P : Program) (w : World) (K : PySem.W.Frag) (mg : Str → Option Value) (base : Heap) (CX : CXT) (k : Nat) (f : Addr) (fd : FuncData) (ps : List Str) (cls : Value) (sp : Addr → Sp) : Prop where
  len : ∀ a vs H Q E, sp a vs H Q E → vs.length = ps.length
  run : ∀ (A : Around) (outer : List Env) (s : Shared) (H : Hp) (args : Args) (us : List Value) (vs : List V) (Q : VK) (E : XK) (p : Addr × Obj), L2H.RoomH k A → A.handled = some (.ref p.1) → L2N.Zn cls none p.2 → (∃ vs, p.2.data = .fields vs) → L2H.PinOk outer H s p → Env0 P w K mg base A outer s H → BindsTo s fd args (ps.zip us) → Vals vs us → sp p.1 vs H Q E →
    codeAny (model P w) A (.call (.ref f) args) (L2.CR CX outer P w H s Q E) s
section
variable {P : Program} {w' : World} {K : PySem.W.Frag} {mg : Str → Option Value} {base : Heap} {cv : Nat → Value}
theorem fn_okX {x qual : Str} {st : Stmt} {f : Addr} {fd : FuncData} {N ps : List Str} {k n : Nat} {cls : Value} {Φ : Addr → List D → Option CR} {m : Addr → SM} {w : List Nat} (G : Fun K x qual st f fd) (S : FnScope N ps (defScope st)) (hn : ps.length = n)
    (body : ∀ (cdv : Value) (A : Around) (outer : List Env) (s : Shared) (H : Hp) (E : XK) (p : Addr × Obj), L2H.RoomH k (A.deeper (envOfC qual (defScope st) s.heap.objs.size f cdv)) → (A.deeper (envOfC qual (defScope st) s.heap.objs.size f cdv)).handled = some (.ref p.1) → L2N.Zn cls none p.2 → (∃ vs, p.2.data = .fields vs) →
      ∃ t, SndSs cv (L2H.cxH (L2N.CX P w') P w' K mg base N qual (defScope st) f cdv A outer s H E p) (fun cls d _ H => E cls d H) (defBody st) t (m p.1) w)
    (run : ∀ a ds res, Φ a ds = some res → runB none N.length (m a) ds = some res) : FnX P w' K mg base (L2N.CX P w') (k + 1) f fd ps cls (fun a => spI cv K n none (Φ a)) := by
  obtain ⟨oc, od, kV, doc, pm, an, cdv, ct, osl, rfl, lk, hcd⟩ := G.ex
  refine ⟨fun a vs H Q E h => h.1.trans hn.symm, fun A outer s H args us vs Q E p hr hh hz hf hpin e0 hb r hsp => ?_⟩
  have hl : vs.length = ps.length := hsp.1.trans hn.symm
  have KX : K.In s.heap := e0.mod.kin.keeps fun b o e => (e0.bs b o e).1
  have lim : s.heap.NoLimit := e0.mod.nolimit.keeps fun b o e => (e0.bs b o e).1
  have hkind : ∀ y ∈ ps.zip us, (defScope st).names.lookup y.1 = some .local ∨ ((defScope st).names.lookup y.1 = some .cell ∧ ((cellsFrom (s.heap.objs.size + 1) (defScope st).names []).lookup y.1).isSome = true) := fun ⟨n, v⟩ hy => by
    rcases S.par n (List.of_mem_zip hy).1 with q | q
    · exact .inl q
    · exact .inr ⟨q, PySem.W.cellsFrom_some _ _ _ (.inl q)⟩
  refine codeAny_call_function hr.depth (KX _ _ lk) rfl S.co S.gen rfl (PySem.W.codeRec_of KX hcd) (hb _ _ _ _ ?_)
  refine wpAny_newFunctionEnv_cells S.kind hkind fun env he s1 xx => ?_
  subst he
  refine ⟨lim.keeps xx.toInCall.keep, codeAny_func ?_⟩
  obtain ⟨t, b⟩ := body cdv A outer s H E p (hr.deeper _) hh hz hf
  have I : Inv (L2H.cxH (L2N.CX P w') P w' K mg base N qual (defScope st) f cdv A outer s H E p) [] (L2.start N vs) H s1 := L2H.inv_startH S hpin e0 hl r xx
  have hq := ends_of (io := none) (W := fun cls d _ H => E cls d H) (fun _ _ _ _ h => h) (fun i h => nomatch h) b.ad (run p.1) hsp
  refine wpAny_mono (b.ps.run [] s1 (L2.start N vs) H _ I hq) (fun fl s' hs => ?_) fun e s' hs => hs
  have fin : ∀ {σ' : L2.St} {H' : Hp} {v : V} {u : Value}, Inv (L2H.cxH (L2N.CX P w') P w' K mg base N qual (defScope st) f cdv A outer s H E p) [] σ' H' s' → L2.RelV v u → Q v H' → CE outer P w' H s Q u s' :=
    fun {σ' H' v u} J rv q => ⟨v, H', J.os, J.bare, J.base, J.hok, rv, q⟩
  cases fl with
  | ret u =>
    obtain ⟨v, σ', H', J, rv, q⟩ := hs
    exact fin J rv q
  | next =>
    obtain ⟨σ', H', J, q⟩ := hs
    exact fin (v := V.non) (u := Value.none) J rfl q
  | brk =>
    obtain ⟨_, _, _, q⟩ := hs
    exact False.elim q
  | cont =>
    obtain ⟨_, _, _, q⟩ := hs
    exact False.elim q
end
section
variable {X : Cx} {CX : CXT} {k : Nat} {f : Addr} {fd : FuncData} {ps : List Str} {cls : Value} {sp : Addr → Sp} {E : L2.St → XK} {x : Str} {q pos : Pos} {e : Expr} {es : List Expr} {t : TA} {pe : Addr × Obj}
theorem run_fnX {pins : List (Addr × Obj)} {σ : L2.St} {H : Hp} {s : Shared} {Q : VK} {us : List Value} {vs : List V} (F : FnX X.prog X.w X.K X.mg X.base CX k f fd ps cls sp) (hr : L2H.RoomH k X.A) (hh : X.A.handled = some (.ref pe.1)) (hp : pe ∈ X.pn) (hz : L2N.Zn cls none pe.2) (hf : ∃ vs, pe.2.data = .fields vs) (hb : Binds X.K fd ps []) (hx : PassesAt CX X σ (E σ))
    (I : Inv X pins σ H s) (r : Vals vs us) (h : sp pe.1 vs H Q (E σ)) : wpAny (model X.prog X.w) X.A (call (.ref f) us) (EP X pins σ Q) X.xe s := by
  have hl : us.length = ps.length := by rw [← r.length]; exact F.len _ _ _ _ _ h
  have b := hb s us I.kIn (by rw [List.append_nil]; exact hl)
  rw [List.append_nil] at b
  have P1 := I.pin pe (List.mem_append_left _ hp)
  have hpin : L2H.PinOk X.stack H s pe := ⟨P1.1, P1.2.1, fun hm => (List.mem_cons.mp (I.stkSub pe.1 hm)).elim P1.2.2.1 P1.2.2.2.1, P1.2.2.2.2⟩
  refine wpAny_call (codeAny_mono (F.run X.A X.stack s H ⟨us, []⟩ us vs Q (E σ) pe hr hh hz hf hpin I.env0 b r h) fun r s' hq => ?_)
  cases r with
  | error e => exact hx pins H s e s' I hq
  | ok fl =>
    cases fl with
    | ret u => exact I.after hq
    | next => exact False.elim hq
    | brk => exact False.elim hq
    | cont => exact False.elim hq
theorem pe_callX (F : FnX X.prog X.w X.K X.mg X.base CX k f fd ps cls sp) (hr : L2H.RoomH k X.A) (hh : X.A.handled = some (.ref pe.1)) (hp : pe ∈ X.pn) (hz : L2N.Zn cls none pe.2) (hf : ∃ vs, pe.2.data = .fields vs) (hg : Gl X x) (hm : X.mg x = some (.ref f)) (hk : PySem.W.keepIn X.K (.ref f) = true) (hb : Binds X.K fd ps []) (hx : ∀ σ, PassesAt CX X σ (E σ))
    (ha : PA X (e :: es) t) (hdb : (x == ("__debug__" : Str)) = false := by decide) (he : starEach (e :: es) X.env = (false, eval e X.env) :: starEach es X.env := by rfl) (hpl : (backTo pos (starEach es X.env)).any (·.1) = false := by rfl) :
    PE X (.Call (.Name x q) (e :: es) [] pos) (tCallS (sp pe.1) E t) := by
  refine ⟨fun pins s σ H Q I h => ?_⟩
  refine wpAny_Call_Name_kw (ld_glob I hg hm ?_ hdb)
  refine PySem.W.callWith_K (h₀ := X.base) I.ok.mod.kin hk (thn (ha.run pos pins s σ H _ I h) fun us s1 ⟨vs, H1, I1, r, q⟩ => ⟨I1.kIn, ?_⟩) he hpl
  exact run_fnX F hr hh hp hz hf hb (hx σ) I1 r q
end
section
variable {cv : Nat → Value} {X : Cx} {W : WX} {e : Expr} {es : List Expr} {ts : TA} {fs : M (List Op)} {pos p pt : Pos} {pe : Addr × Obj}
theorem snd_callX {n k : Nat} {Φ : Addr → List D → Option CR} {f : Addr} {fd : FuncData} {ps : List Str} {x : Str} {cls : Value} (G : FnX X.prog X.w X.K X.mg X.base (L2N.CX X.prog X.w) k f fd ps cls (fun a => spI cv X.K n none (Φ a))) (hr : L2H.RoomH k X.A) (hh : X.A.handled = some (.ref pe.1)) (hp : pe ∈ X.pn) (hz : L2N.Zn cls none pe.2) (hf : ∃ vs, pe.2.data = .fields vs) (hg : Gl X x) (hm : X.mg x = some (.ref f))
    (hk : PySem.W.keepIn X.K (.ref f) = true) (hb : Binds X.K fd ps []) (tk : L2N.Takes X W) (ha : SndA cv X W (e :: es) ts fs) (hdb : (x == ("__debug__" : Str)) = false := by decide)
    (he : starEach (e :: es) X.env = (false, eval e X.env) :: starEach es X.env := by rfl) (hpl : (backTo pos (starEach es X.env)).any (·.1) = false := by rfl) :
    SndE cv X W (.Call (.Name x p) (e :: es) [] pos) (tCallS (spI cv X.K n none (Φ pe.1)) (WE W) ts) (vCall n none (Φ pe.1) fs) := by
  refine ⟨pe_callX G hr hh hp hz hf hg hm hk hb (fun σ => L2N.passAt tk σ) ha.pa hdb he hpl, fun F B H σ ρ Q R q => ?_⟩
  refine ha.ad F B H σ ρ _ R (wpm_mono (wpm_bnd q) (fun os ρ1 q vs B1 H1 R1 sm1 ov => ?_) fun _ _ q => q)
  unfold wpm at q
  by_cases hl : os.length = n
  · simp only [if_pos hl] at q
    exact adm_callM R1 ov hl (wpm_mono (m := callM none (Φ pe.1) os) q (fun a ρ' q v B' H' R' sm rv => q v B' H' R' (sm1.trans sm) rv) fun c ρ' q B' H' R' sm => q B' H' R' (sm1.trans sm))
  · simp only [if_neg hl] at q
/-- isinstance of the handled error -/
theorem call_isX {D : Addr} (C : ExcC X.K D) (hp : pe ∈ X.pn) (hz : L2N.Zn (.ref D) none pe.2) (hf : ∃ vs, pe.2.data = .fields vs) : CallR X (.builtin "isinstance") (rIsE X.K D pe.1) := by
  intro pins s σ H xs us Q I r h
  obtain ⟨c, cv, b, rfl, hcv, e, q⟩ := h
  cases r with
  | cons rx rr =>
    cases rr with
    | cons rt rr =>
      cases rr
      cases rx
      have ec := hcv _ rt
      subst ec
      obtain ⟨hget, _⟩ := I.pin pe (List.mem_append.mpr (.inl hp))
      obtain ⟨vs, hv⟩ := hf
      have J : PySem.W.InstAt s.heap pe.1 pe.2 D none := by
        obtain ⟨a, oc, od, oda, osl⟩ := pe
        obtain ⟨h1, h2, _⟩ := hz
        dsimp only at h1 h2 hv
        subst h1 h2 hv
        exact ⟨hget, rfl, rfl, trivial⟩
      exact PySem.W.kia_one (PySem.W.handS_kitx_exc C.hg C.hk C.hs C.hd C.ha C.hn C.ht C.hm) I.kIn J e (fun z => nomatch z) fun tk => ⟨.bl b, H, I.kept (t' := tk) fun _ _ z => z, rfl, q⟩
open Classical in
noncomputable def vIsX (ad : Addr) (b : Bool) (a : M Op) : M SV := bnd a fun o ρ => if get ρ o = some (.adr ad) then some (.ok (.sh (.bl b)) ρ) else none
theorem snd_isX {D : Addr} {x : Str} {a : Expr} {ta : TE} {fa : M Op} {cvl : V} {u : Value} {b : Bool} {pp : Pos} (C : ExcC X.K D) (hp : pe ∈ X.pn) (hz : L2N.Zn (.ref D) none pe.2) (hf : ∃ vs, pe.2.data = .fields vs) (hgi : Gl X "isinstance") (hmi : X.mg "isinstance" = none)
    (hc : PE X (.Name x pt) (tC cvl)) (hu : ∀ v, RelV cvl v → v = u) (hk : PySem.W.kitOne X.K (.ref D) u = some b) (ha : SndO cv X W a ta fa)
    (he : starEach [a, .Name x pt] X.env = (false, eval a X.env) :: starEach [.Name x pt] X.env := by rfl) (he1 : starEach [.Name x pt] X.env = (false, eval (.Name x pt) X.env) :: starEach [] X.env := by rfl)
    (hpl : (backTo pos (starEach [.Name x pt] X.env)).any (·.1) = false := by rfl) :
    SndE cv X W (.Call (.Name "isinstance" pp) [a, .Name x pt] [] pos) (tCB (rIsE X.K D pe.1) (tCons ta (tCons (tC cvl) tNil))) (vIsX pe.1 b fa) := by
  refine ⟨pe_callB (call_isX C hp hz hf) hgi hmi boot_isinstance (pa_cons ha.pe (pa_cons hc pa_nil he1) he) (by decide) (by decide) he hpl, fun F B H σ ρ Q R q => ?_⟩
  refine ha.ad F B H σ ρ _ R (wpm_mono (wpm_bnd q) (fun o ρ1 q v B1 H1 R1 sm1 ov => ?_) fun _ _ q => q)
  unfold wpm at q
  by_cases e1 : get ρ1 o = some (.adr pe.1)
  · simp only [if_pos e1] at q
    have ev : v = .ref pe.1 := by
      have r := ov.rep R1 e1
      cases r with
      | sh r =>
        cases r
        rfl
      | @own a o xs c _ hB hH hO r e => cases c <;> cases e
    subst ev
    exact ⟨cvl, u, b, rfl, hu, hk, q _ B1 H1 R1 sm1 (.sh (.bl b))⟩
  · simp only [if_neg e1] at q
end
end Sim

namespace Sim
open PySem PySem.Spec PyProof.Rows L2
/-! ### try: .. except X as e: .. -/
def dropE (i : Nat) : Option SO → Option SO
  | some (.nx ρ) => some (.nx (ρ.set i none))
  | some (.rt sv ρ) => some (.rt sv (ρ.set i none))
  | some (.bk ρ) => some (.bk (ρ.set i none))
  | some (.ct ρ) => some (.ct (ρ.set i none))
  | _ => none
def sufE (i : Nat) (n : Addr → SM) (ρ : Sl) (a : Addr) : Option SO := dropE i (n a (ρ.set i (some (.sh (.adr a)))))
open Classical in
noncomputable def exTry (cs : List Nat) (i : Nat) (n : Nat → Addr → SM) : Option SO → Option SO
  | some (.ex c ρ) => if c ∈ cs ∧ i < ρ.length ∧ ∀ a, sufE i (n c) ρ a = sufE i (n c) ρ 0 then sufE i (n c) ρ 0 else none
  | o => o
noncomputable def sTry (m : SM) (cs : List Nat) (i : Nat) (n : Nat → Addr → SM) : SM := fun ρ => exTry cs i n (m ρ)
theorem e_try {cs : List Nat} {i c : Nat} {n : Nat → Addr → SM} {ρ : Sl} {r : Option SO} (hc : c ∈ cs) (hi : i < ρ.length) (h : ∀ a, sufE i (n c) ρ a = r) : exTry cs i n (some (.ex c ρ)) = r := by
  have e : exTry cs i n (some (.ex c ρ)) = sufE i (n c) ρ 0 := by
    unfold exTry
    exact if_pos ⟨hc, hi, fun a => (h a).trans (h 0).symm⟩
  exact e.trans (h 0)
section
variable {K : PySem.W.Frag} {F B H : Hp} {σ : L2.St} {ρ : Sl} {i : Nat}
theorem Rel.unset (R : Rel K F B H σ ρ) : Rel K F B H (σ.set i none) (ρ.set i none) := by
  refine ⟨R.exB, R.exF, R.dis, by rw [List.length_set, List.length_set]; exact R.len, fun j s h => ?_, fun j k a h1 h2 => ?_, R.tb⟩
  · by_cases e : i = j
    · subst e
      by_cases hi : i < ρ.length
      · rw [List.getElem?_set_self hi] at h
        cases h
      · rw [List.getElem?_eq_none (by rw [List.length_set]; omega)] at h
        cases h
    · rw [List.getElem?_set_ne e] at h
      rw [List.getElem?_set_ne e]
      exact R.slot j s h
  · have own : ∀ {j : Nat} {a : Addr}, Owns (σ.set i none) (ρ.set i none) j a → Owns σ ρ j a := fun {j a} o => by
      obtain ⟨⟨ds, h⟩, h2⟩ := o
      by_cases e : i = j
      · subst e
        by_cases hi : i < ρ.length
        · rw [List.getElem?_set_self hi] at h
          cases h
        · rw [List.getElem?_eq_none (by rw [List.length_set]; omega)] at h
          cases h
      · rw [List.getElem?_set_ne e] at h
        rw [List.getElem?_set_ne e] at h2
        exact ⟨⟨ds, h⟩, h2⟩
    exact R.sep j k a (own h1) (own h2)
theorem RV.unset {v : V} {sv : SV} (r : RV K F B H σ ρ v sv) : RV K F B H (σ.set i none) (ρ.set i none) v sv := by
  cases r with
  | sh r => exact .sh r
  | fr hF hB hH hO r no =>
    refine .fr hF hB hH hO r fun j o => ?_
    obtain ⟨⟨ds, h⟩, h2⟩ := o
    by_cases e : i = j
    · subst e
      by_cases hi : i < ρ.length
      · rw [List.getElem?_set_self hi] at h
        cases h
      · rw [List.getElem?_eq_none (by rw [List.length_set]; omega)] at h
        cases h
    · rw [List.getElem?_set_ne e] at h
      rw [List.getElem?_set_ne e] at h2
      exact no j ⟨⟨ds, h⟩, h2⟩
theorem Agr.set {w : List Nat} {σ1 : L2.St} {x : Option V} (h : Agr w σ σ1) : Agr (w ++ [i]) σ (σ1.set i x) := fun j hj => by
  rw [List.mem_append, not_or, List.mem_singleton] at hj
  rw [List.getElem?_set_ne (Ne.symm hj.2)]
  exact h j hj.1
end
section
variable {cv : Nat → Value} {X : Cx} {W : WX} {i : Nat} {m : SM} {n : Nat → Addr → SM} {w w' : List Nat} {cs : List Nat} {tb : WX → TS} {ts : Nat → Addr → TS} {x y : Str} {np pos pos' : Pos} {body suite : List Stmt} {b₀ : Stmt}
/-- what the suite wishes, by the class of the error -/
def tSuf (cv : Nat → Value) (cs : List Nat) (ts : Nat → Addr → TS) : Addr → Value → Option Addr → TS := fun a cls d D σ H => ∃ c, c ∈ cs ∧ cls = cv c ∧ d = none ∧ ts c a D σ H
theorem pss_suf {X' : Cx} {a : Addr} {cls : Value} {d : Option Addr} {sts : List Stmt} (h : ∀ c, c ∈ cs → cls = cv c → d = none → PSs X' sts (ts c a)) : PSs X' sts (tSuf cv cs ts a cls d) :=
  ⟨fun pins s σ H D I ⟨c, hc, h1, h2, q⟩ => (h c hc h1 h2).run pins s σ H D I q⟩
theorem adm_try {RE : Value} (hb : ∀ W, AdmS cv W X.K (tb W) m w) (hs : ∀ c a, c ∈ cs → AdmS cv (fun _ _ _ _ => False) X.K (ts c a) (n c a) w')
    (he : ∀ c, c ∈ cs → PySem.W.exmOne X.K (cv c) RE = some true) (Wout : WX) : AdmS cv W X.K (fun D σ H => tb (wAs X.K RE i (tSuf cv cs ts) Wout D) D σ H) (sTry m cs i n) (w ++ ([i] ++ (w' ++ [i]))) := by
  intro F B H σ ρ D R q
  refine hb (wAs X.K RE i (tSuf cv cs ts) Wout D) F B H σ ρ D R ?_
  have ml : ∀ {σ' : L2.St}, Agr w σ σ' → Agr (w ++ ([i] ++ (w' ++ [i]))) σ σ' := fun ag => ag.mono fun j h => List.mem_append_left _ h
  unfold sTry exTry at q
  cases e : m ρ with
  | none =>
    rw [e] at q
    exact q.elim
  | some o =>
    rw [e] at q
    cases o with
    | nx ρ1 => exact fun σ' B' H' R' sm ag => q σ' B' H' R' sm (ml ag)
    | rt sv ρ1 => exact fun v σ' B' H' R' sm ag rv => q v σ' B' H' R' sm (ml ag) rv
    | bk ρ1 => exact fun σ' B' H' R' sm ag => q σ' B' H' R' sm (ml ag)
    | ct ρ1 => exact fun σ' B' H' R' sm ag => q σ' B' H' R' sm (ml ag)
    | ex c ρ1 =>
      intro σ' B' H' R' sm ag
      by_cases hc : c ∈ cs ∧ i < ρ1.length ∧ ∀ a, sufE i (n c) ρ1 a = sufE i (n c) ρ1 0
      · obtain ⟨c1, c2, c3⟩ := hc
        simp only [if_pos (show c ∈ cs ∧ i < ρ1.length ∧ ∀ a, sufE i (n c) ρ1 a = sufE i (n c) ρ1 0 from ⟨c1, c2, c3⟩)] at q
        refine ⟨true, he c c1, fun _ a ha => ⟨c, c1, rfl, rfl, ?_⟩, fun z => nomatch z⟩
        rw [← c3 a] at q
        unfold sufE at q
        have R2 := R'.store (.sh (.adr a)) c2
        refine hs c a c1 F B' H' _ _ _ R2 ?_
        have ag2 : Agr (w ++ [i]) σ (σ'.set i (some (.ref a))) := ag.set
        have ag3 : ∀ {σ3 : L2.St}, Agr w' (σ'.set i (some (.ref a))) σ3 → Agr (w ++ ([i] ++ (w' ++ [i]))) σ (σ3.set i none) := fun {σ3} a3 => by
          have h := (ag2.trans a3).set (i := i) (x := none)
          exact h.mono fun j hj => by simpa [List.append_assoc] using hj
        cases e2 : n c a (ρ1.set i (some (.sh (.adr a)))) with
        | none =>
          rw [e2] at q
          exact q.elim
        | some o2 =>
          rw [e2] at q
          cases o2 with
          | nx ρ3 => exact fun σ3 B3 H3 R3 sm3 a3 => q _ B3 H3 R3.unset (sm.trans sm3) (ag3 a3)
          | rt sv ρ3 => exact fun v σ3 B3 H3 R3 sm3 a3 rv => q v _ B3 H3 R3.unset (sm.trans sm3) (ag3 a3) rv.unset
          | bk ρ3 => exact fun σ3 B3 H3 R3 sm3 a3 => q _ B3 H3 R3.unset (sm.trans sm3) (ag3 a3)
          | ct ρ3 => exact fun σ3 B3 H3 R3 sm3 a3 => q _ B3 H3 R3.unset (sm.trans sm3) (ag3 a3)
          | ex c' ρ3 => exact q.elim
      · simp only [if_neg hc] at q
        exact q.elim
theorem sns_try {RE : Value} (hst : X.stack = X.env :: X.outer) (hfr : X.env.frame = some X.env.locals) (hN : X.N.Nodup) (hi : X.N[i]? = some y) (hln : X.env.kindOf y = some .local) (hc : Names X x RE)
    (hb : ∀ (W : WX) (pn : List (Addr × Obj)) (xe : Value → Shared → Prop), L2N.Takes (X.tr pn xe) W → PassesOwn (model X.prog X.w) X.A X.env xe → PSs (X.tr pn xe) body (tb W)) (hbA : ∀ W, AdmS cv W X.K (tb W) m w)
    (hs : ∀ c, c ∈ cs → ∀ (a : Addr) (oe : Obj) (pn : List (Addr × Obj)), L2N.Zn (cv c) none oe → (∃ vs, oe.data = .fields vs) → PSs (X.suite a ((a, oe) :: pn)) (b₀ :: suite) (ts c a)) (hsA : ∀ c a, c ∈ cs → AdmS cv (fun _ _ _ _ => False) X.K (ts c a) (n c a) w')
    (he : ∀ c, c ∈ cs → PySem.W.exmOne X.K (cv c) RE = some true) :
    SndS cv X W (.Try body [.ExceptHandler (some (.Name x np)) (some y) (b₀ :: suite) pos'] [] [] pos) (fun D σ H => tb (wAs X.K RE i (tSuf cv cs ts) (fun _ _ _ _ => False) D) D σ H) (sTry m cs i n) (w ++ ([i] ++ (w' ++ [i]))) :=
  ⟨L2N.ps_try_as hst hfr hN hi hln hc takes0N hb (fun a oe cls d pn hz hf => pss_suf fun c hc h1 h2 => by
      subst h1 h2
      exact hs c hc a oe pn hz hf), adm_try hbA hsA he _⟩
end
end Sim

namespace Sim
open PySem PySem.Spec PyProof.Rows L2
section
variable {cv : Nat → Value} {X : Cx} {W : WX} {i : Nat} {m : SM} {n : Nat → Addr → SM} {w w' : List Nat} {cs : List Nat} {x y : Str} {np pos pos' : Pos} {body suite : List Stmt} {b₀ : Stmt}
/-- try, by the derivations of its two parts -/
theorem sns_try2 {RE : Value} {tb : WX → List (Addr × Obj) → (Value → Shared → Prop) → TS} {ts : Nat → Addr → Obj → List (Addr × Obj) → TS}
    (hst : X.stack = X.env :: X.outer) (hfr : X.env.frame = some X.env.locals) (hN : X.N.Nodup) (hi : X.N[i]? = some y) (hln : X.env.kindOf y = some .local) (hc : Names X x RE)
    (he : ∀ c, c ∈ cs → PySem.W.exmOne X.K (cv c) RE = some true)
    (hb : ∀ (W : WX) (pn : List (Addr × Obj)) (xe : Value → Shared → Prop), L2N.Takes (X.tr pn xe) W → SndSs cv (X.tr pn xe) W body (tb W pn xe) m w)
    (hs : ∀ c, c ∈ cs → ∀ (a : Addr) (oe : Obj) (pn : List (Addr × Obj)), L2N.Zn (cv c) none oe → (∃ vs, oe.data = .fields vs) → SndSs cv (X.suite a ((a, oe) :: pn)) (fun _ _ _ _ => False) (b₀ :: suite) (ts c a oe pn) (n c a) w')
    (rb : ∀ W pn xe, tb W pn xe = tb W [] (fun _ _ => True) := by intros; rfl) (rs : ∀ c a oe pn, ts c a oe pn = ts c a ⟨cv c, none, .fields #[.none, .none, .none], #[]⟩ [] := by intros; rfl) :
    SndS cv X W (.Try body [.ExceptHandler (some (.Name x np)) (some y) (b₀ :: suite) pos'] [] [] pos) (fun D σ H => tb (wAs X.K RE i (tSuf cv cs fun c a => ts c a ⟨cv c, none, .fields #[.none, .none, .none], #[]⟩ []) (fun _ _ _ _ => False) D) [] (fun _ _ => True) D σ H) (sTry m cs i n) (w ++ ([i] ++ (w' ++ [i]))) :=
  sns_try (tb := fun W => tb W [] (fun _ _ => True)) (ts := fun c a => ts c a ⟨cv c, none, .fields #[.none, .none, .none], #[]⟩ []) hst hfr hN hi hln hc
    (fun W pn xe tk _ => by
      rw [← rb W pn xe]
      exact (hb W pn xe tk).ps)
    (fun W => (hb W [] (fun _ _ => True) fun _ _ _ => trivial).ad)
    (fun c hc a oe pn hz hf => by
      rw [← rs c a oe pn]
      exact (hs c hc a oe pn hz hf).ps)
    (fun c a hc => (hs c hc a ⟨cv c, none, .fields #[.none, .none, .none], #[]⟩ [] ⟨rfl, rfl, fun vs e => by cases e; rfl⟩ ⟨_, rfl⟩).ad) he
end
theorem roomH_mark {k : Nat} {A : Around} {v : Option Value} (r : Room k A) : L2H.RoomH k (A.mark v) := ⟨r.dp, r.un⟩
theorem all_nil {P : Nat → Prop} : ∀ c, c ∈ ([] : List Nat) → P c := fun _ h => nomatch h
theorem all_cons {P : Nat → Prop} {a : Nat} {l : List Nat} (h : P a) (t : ∀ c, c ∈ l → P c) : ∀ c, c ∈ a :: l → P c := fun c hc => by
  rcases List.mem_cons.mp hc with rfl | hc
  · exact h
  · exact t c hc
section
variable {cv : Nat → Value} {dv : Nat → Addr} {X : Cx} {W : WX} {pos pt pp : Pos} {pe : Addr × Obj} {cs : List Nat} {c : Nat} {p : Nat → Bool}
/-- isinstance of the handled error, its class told by its number -/
theorem snd_isXK {x : Str} {a : Expr} {ta : TE} {fa : M Op} {cvl : V} {u : Value} (hcv : ∀ c, cv c = .ref (dv c)) (hcs : c ∈ cs) (ec : ∀ c, c ∈ cs → ExcC X.K (dv c)) (hp : pe ∈ X.pn) (hz : L2N.Zn (cv c) none pe.2) (hf : ∃ vs, pe.2.data = .fields vs) (hgi : Gl X "isinstance") (hmi : X.mg "isinstance" = none)
    (hc : PE X (.Name x pt) (tC cvl)) (hu : ∀ v, RelV cvl v → v = u) (hk : ∀ c, c ∈ cs → PySem.W.kitOne X.K (.ref (dv c)) u = some (p c)) (ha : SndO cv X W a ta fa)
    (he : starEach [a, .Name x pt] X.env = (false, eval a X.env) :: starEach [.Name x pt] X.env := by rfl) (he1 : starEach [.Name x pt] X.env = (false, eval (.Name x pt) X.env) :: starEach [] X.env := by rfl)
    (hpl : (backTo pos (starEach [.Name x pt] X.env)).any (·.1) = false := by rfl) :
    SndE cv X W (.Call (.Name "isinstance" pp) [a, .Name x pt] [] pos) (tCB (rIsE X.K (dv c) pe.1) (tCons ta (tCons (tC cvl) tNil))) (vIsX pe.1 (p c) fa) :=
  snd_isX (ec c hcs) hp (by rw [← hcv c]; exact hz) hf hgi hmi hc hu (hk c hcs) ha he he1 hpl
end
section
variable {K : PySem.W.Frag} {h : Heap} {mg : Str → Option Value} {x : Str} {C : Addr} {R : Prop}
theorem with_exc (X : K.In h) (G : h.Ns mainGlobals mg) (a : PySem.W.nsIn K mainGlobals x = some (some (.ref C))) (q : PySem.W.excIn K C [.type "ValueError", .type "Exception", .type "BaseException", .type "object"] "ValueError.__new__" = true) (kC : PySem.W.keepIn K (.ref C) = true)
    (bC : PySem.W.subIn K (.ref C) (.type "BaseException") = some true) (tC : PySem.W.typeIn K (.ref C) = some (.type "type")) (hg : PySem.W.findIn K (.ref C) "__getattribute__" = some (some (.builtin "BaseException.__getattribute__"))) (hk : PySem.W.findIn K (.ref C) "__getattr__" = some none)
    (hd : PySem.W.hasDictIn K C = true) (ha : PySem.W.findIn K (.ref C) "__class__" = some (some (.builtin "object.__class__"))) (hn : PySem.W.specialIn K (.builtin "object.__class__") "__get__" = some (some (.builtin "getset_descriptor.__get__"))) (ht : PySem.W.takesIn K (.builtin "object.__class__") = some true)
    (hm : PySem.W.mroIn K C (.type "object") = some true) (n : ExcIs K mg x C → R) : R :=
  n ⟨PySem.W.mg_of X G a, q, kC, bC, tC, ⟨hg, hk, bC, hd, ha, hn, ht, hm⟩⟩
end
end Sim

namespace Sim
open PySem PySem.Spec PyProof.Rows L2
theorem unitsH {k : Nat} {A : Around} (r : L2H.RoomH k A) : A.units + 64 < cLine := by have := r.un; omega
/-! ### list.index of a truth -/
def gIdB : D → List D → Option SV
  | .lst l, [.bl b] => (blL l).bind fun bs => if b ∈ bs then some (.sh (.int ((bs.idxOf b : Nat) : Int))) else none
  | _, _ => none
theorem rep_bls {K : PySem.W.Frag} {H : Hp} : ∀ {bs : List Bool} {xs : List V}, RepL K H xs (bs.map D.bl) → xs = bs.map V.bl
  | [], _, .nil => rfl
  | b :: bs, _, .cons r t => by
    cases r
    rw [rep_bls t]
    rfl
theorem idx_least {b : Bool} : ∀ {bs : List Bool} {m : Nat} {x : Bool}, m < bs.idxOf b → bs[m]? = some x → (x == b) = false
  | [], m, x, _, h => by simp at h
  | c :: bs, m, x, hm, h => by
    rw [List.idxOf_cons] at hm
    by_cases e : (c == b) = true
    · rw [e] at hm
      simp at hm
    · have e' : (c == b) = false := Bool.eq_false_iff.mpr e
      rw [e'] at hm
      cases m with
      | zero =>
        simp at h
        subst h
        exact e'
      | succ m =>
        exact idx_least (bs := bs) (m := m) (by simpa using hm) (by simpa using h)
theorem ok_idB {K : PySem.W.Frag} : OkP K (rIndex K) gIdB := by
  intro F B H σ ρ x xs dx ds sv Q R hx hxs hg q
  unfold gIdB at hg
  split at hg
  · rename_i l b
    cases e : blL l with
    | none =>
      rw [e] at hg
      cases hg
    | some bs =>
      rw [e, Option.bind_some] at hg
      split at hg
      · rename_i hb
        cases hg
        obtain ⟨a, ys, rfl, h1, r1⟩ := hx.lst R.exB
        obtain ⟨v, rfl, rv⟩ := hxs.one
        have hl := blL_map e
        subst hl
        have hy := rep_bls r1
        subst hy
        have hv := rv.bl
        subst hv
        have hlt : bs.idxOf b < bs.length := List.idxOf_lt_length_iff.mpr hb
        refine ⟨a, bs.map V.bl, .bl b, bs.idxOf b, .bl b, rfl, rfl, SqL.of h1, rfl, ?_, ?_, ?_, ?_, q _ B H R (Same.refl _) (.sh (.int _))⟩
        · rw [List.all_map]
          exact List.all_eq_true.mpr fun _ _ => rfl
        · rw [List.getElem?_map, List.getElem?_eq_getElem hlt, List.getElem_idxOf hlt]
          rfl
        · show (b == b) = true
          simp
        · intro m z hm hz
          rw [List.getElem?_map] at hz
          cases e2 : bs[m]? with
          | none =>
            rw [e2] at hz
            cases hz
          | some c =>
            rw [e2] at hz
            cases hz
            exact idx_least hm e2
      · cases hg
  · cases hg
/-! ### what a walk wants of the errors -/
def HasX (P : Program) (w : World) (K : PySem.W.Frag) (mg : Str → Option Value) (base : Heap) (cv : Nat → Value) (k n : Nat) (cs : List Nat) (Φ : Nat → Addr → List D → Option CR) (x : Str) (ps : List Str) : Prop :=
  ∃ f fd, (∀ c, c ∈ cs → FnX P w K mg base (L2N.CX P w) k f fd ps (cv c) (fun a => spI cv K n none (Φ c a))) ∧ mg x = some (.ref f) ∧ PySem.W.keepIn K (.ref f) = true ∧ Binds K fd ps []
def ExcAt (K : PySem.W.Frag) (mg : Str → Option Value) (cv : Nat → Value) (x : Str) (i : Nat) : Prop := ∃ C, ExcIs K mg x C ∧ cv i = .ref C
def KitAt (K : PySem.W.Frag) (mg : Str → Option Value) (dv : Nat → Addr) (cs : List Nat) (x : Str) (p : Nat → Bool) : Prop := ∃ C, mg x = some (.ref C) ∧ ∀ c, c ∈ cs → PySem.W.kitOne K (.ref (dv c)) (.ref C) = some (p c)
def KitT (K : PySem.W.Frag) (dv : Nat → Addr) (cs : List Nat) (T : String) (p : Nat → Bool) : Prop := ∀ c, c ∈ cs → PySem.W.kitOne K (.ref (dv c)) (.type T) = some (p c)
def ExmAt (K : PySem.W.Frag) (mg : Str → Option Value) (cv : Nat → Value) (cs : List Nat) (x : Str) : Prop := ∃ C, mg x = some (.ref C) ∧ ∀ c, c ∈ cs → PySem.W.exmOne K (cv c) (.ref C) = some true
abbrev ExcIs.adr {K : PySem.W.Frag} {mg : Str → Option Value} {x : Str} {C : Addr} (_ : ExcIs K mg x C) : Addr := C
section
variable {K : PySem.W.Frag} {h : Heap} {mg : Str → Option Value} {x y : Str} {C D : Addr} {b : Bool} {T : String} {R : Prop}
theorem with_gref (X : K.In h) (G : h.Ns mainGlobals mg) (a : PySem.W.nsIn K mainGlobals x = some (some (.ref C))) (n : mg x = some (.ref C) → R) : R := n (PySem.W.mg_of X G a)
theorem kit_cls {t : Value} (hd : PySem.W.hasDictIn K D = true) (ht : PySem.W.typeIn K (.ref D) = some (.type "type")) : PySem.W.kitCls K t (.ref D) = PySem.W.subIn K t (.ref D) := by
  obtain ⟨cd, hc, _⟩ := PySem.W.any_some hd
  have e2 : ((PySem.W.clsIn K D).isSome && PySem.W.typeIn K (.ref D) == some (.type "type")) = true := by rw [hc, ht] <;> rfl
  exact if_pos e2
theorem with_kit (I : ExcIs K mg x C) (g : mg y = some (.ref D)) (b : Bool) (hd : PySem.W.hasDictIn K D = true) (ht : PySem.W.typeIn K (.ref D) = some (.type "type")) (a : PySem.W.subIn K (.ref C) (.ref D) = some b) (hb : C = D → b = true) (n : PySem.W.kitOne K (.ref C) (.ref D) = some b → R) : R := by
  refine n ?_
  unfold PySem.W.kitOne
  by_cases e : ((Value.ref C) == (Value.ref D)) = true
  · rw [if_pos e, hb (Value.ref.inj (beq_iff_eq.mp e))]
  · rw [if_neg e, kit_cls hd ht]
    exact a
theorem with_kitT (I : ExcIs K mg x C) (T : String) (b : Bool) (hm : PySem.W.kitMeta T = true) (a : PySem.W.subIn K (.ref C) (.type T) = some b) (n : PySem.W.kitOne K (.ref C) (.type T) = some b → R) : R := by
  refine n ?_
  unfold PySem.W.kitOne
  have e : ¬ ((Value.ref C) == (Value.type T)) = true := fun z => by cases (beq_iff_eq.mp z)
  rw [if_neg e]
  exact (if_pos hm).trans a
theorem with_exm (I : ExcIs K mg x C) (g : mg y = some (.ref D)) (bD : PySem.W.subIn K (.ref D) (.type "BaseException") = some true) (hd : PySem.W.hasDictIn K D = true) (ht : PySem.W.typeIn K (.ref D) = some (.type "type")) (a : PySem.W.subIn K (.ref C) (.ref D) = some true) (n : PySem.W.exmOne K (.ref C) (.ref D) = some true → R) : R :=
  n (PySem.W.exm_ref bD hd ht a)
end
end Sim

namespace Sim
open PySem PySem.Spec PyProof.Rows L2
/-! ### dicts that a slot owns -/
def keyD : D → Option L2.Key
  | .int i => some (.inl i)
  | .str s => some (.inr s)
  | _ => none
def setVs {κ : Type} [DecidableEq κ] (k : κ) (d : D) : List κ → List D → List D
  | k' :: ks, v :: vs => (if k' = k then d else v) :: setVs k d ks vs
  | _, _ => []
def putKs {κ : Type} [DecidableEq κ] (ks : List κ) (k : κ) : List κ := if k ∈ ks then ks else ks ++ [k]
def putVs {κ : Type} [DecidableEq κ] (ks : List κ) (vs : List D) (k : κ) (d : D) : List D := if k ∈ ks then setVs k d ks vs else vs ++ [d]
def lookD {κ : Type} [DecidableEq κ] (ks : List κ) (vs : List D) (k : κ) : Option D := (ks.zip vs).lookup k
section
variable {κ : Type} [DecidableEq κ]
end
theorem OpRep.dck {K : PySem.W.Frag} {B H : Hp} {v : V} (e : Same B H) {ks : List L2.Key} {vs : List D} (h : OpRep K B H v (.dck ks vs)) : ∃ a xs, v = .ref a ∧ H a = some (.dK (ks.zip xs)) ∧ ks.length = vs.length ∧ RepL K B xs vs := by
  cases h with
  | sh r =>
    cases r with
    | dck h hl r => exact ⟨_, _, rfl, e _ _ h, hl, r⟩
  | @own a o xs c _ hB hH hO r e =>
    cases c with
    | dk ks' vs' =>
      cases e
      obtain ⟨rfl, hl⟩ := hO
      exact ⟨_, _, rfl, hH, hl, r⟩
    | lst _ => cases e
    | dt _ _ => cases e
    | ob _ _ _ => cases e
/-! #### {} and {k: v} -/
def vDnK : M SV := ret (.ow (.dk [] []))
def vDnT : M SV := ret (.ow (.dt [] []))
section
variable {cv : Nat → Value} {X : Cx} {W : WX} {a b e o : Expr} {ta tb te : TE} {fa fb : M Op} {f : M SV} {pos pos' p p2 : Pos}
/-- what was set aside is changed, and nobody's -/
theorem Rel.free {K : PySem.W.Frag} {F B H : Hp} {σ : L2.St} {ρ : Sl} {d : Addr} {o o' : HO} (R : Rel K (upd F d o) B H σ ρ) (hF : F d = none) (ho : PlainO o := by exact plain_dK) : Rel K F B (upd H d o') σ ρ ∧ B d = none ∧ ∀ i, ¬ Owns σ ρ i d := by
  have hB : B d = none := R.dis d o upd_same
  have no : ∀ i, ¬ Owns σ ρ i d := fun i w => by
    obtain ⟨_, _, _, _, h, _⟩ := w.at R
    rw [upd_same] at h
    cases h
  have hd : H d = some o := R.exF d _ upd_same
  refine ⟨⟨fun a x e => ?_, fun a x e => ?_, fun a x e => ?_, R.len, fun i sv h => ?_, R.sep, (R.tb.put fun u e => by rw [hd] at e; cases e; exact ho).both R.tb.nB fun p hp => ?_⟩, hB, no⟩
  rotate_left 4
  · have := R.tb.nF p hp
    rw [upd_ne (R.tb.ne hd ho.1 hp)] at this
    exact this
  · rw [upd_ne fun z => by rw [z, hB] at e; cases e]
    exact R.exB a x e
  · rw [upd_ne fun z => by rw [z, hF] at e; cases e]
    refine R.exF a x ?_
    rw [upd_ne fun z => by rw [z, hF] at e; cases e]
    exact e
  · refine R.dis a x ?_
    rw [upd_ne fun z => by rw [z, hF] at e; cases e]
    exact e
  · have s := R.slot i sv h
    generalize hg : σ[i]? = w at s
    cases s with
    | sh r => exact .sh r
    | @fr a oo xs' c hF' hB' hH hO r =>
      have z : a ≠ d := fun z => by
        rw [z, upd_same] at hF'
        cases hF'
      rw [upd_ne z] at hF'
      exact .fr hF' hB' (by rw [upd_ne z]; exact hH) hO r
/-! #### d[k] = v -/
def dpK (i : Nat) (o p : Op) : SM := fun ρ => match o, p, ρ[i]? with
  | .val d, .val dk, some (some (.ow (.dk ks vs))) => (keyD dk).bind fun k => if ks.length < 1000000 then some (.nx (ρ.set i (some (.ow (.dk (putKs ks k) (putVs ks vs k d)))))) else none
  | _, _, _ => none
def isDk (ρ : Sl) (i : Nat) : Bool := match ρ[i]? with
  | some (some (.ow (.dk _ _))) => true
  | _ => false
def isDt (ρ : Sl) (i : Nat) : Bool := match ρ[i]? with
  | some (some (.ow (.dt _ _))) => true
  | _ => false
def sDPutK (i : Nat) (f k : M Op) : SM := sEx f fun o ρ => if isDk ρ i = true then sEx k (fun p => dpK i o p) ρ else none
/-- .. of a tuple that is made there -/
def dtK (i : Nat) (o : Op) (ps : List Op) : SM := fun ρ => match o, vals ps, ρ[i]? with
  | .val d, some kd, some (some (.ow (.dt ks vs))) => (intL kd).bind fun k => if ks.length < 1000000 ∧ kd.length ≤ 1000000 then some (.nx (ρ.set i (some (.ow (.dt (putKs ks k) (putVs ks vs k d)))))) else none
  | _, _, _ => none
def sDPutT (i : Nat) (f : M Op) (k : M (List Op)) : SM := sEx f fun o ρ => if isDt ρ i = true then sEx k (fun p => dtK i o p) ρ else none
end
end Sim

namespace Sim
open PySem PySem.Spec PyProof.Rows L2
/-! ### dicts whose keys are whole numbers and texts: read -/
def memK {κ : Type} [DecidableEq κ] (k : κ) (ks : List κ) : Bool := decide (k ∈ ks)
def gInK (neg : Bool) : D → D → Option SV
  | d, .dck ks _ => (keyD d).map fun (k : L2.Key) => .sh (.bl (neg ^^ memK k ks))
  | _, _ => none
def gDxK : D → D → Option SV
  | .dck ks vs, d => (keyD d).bind fun k => (lookD ks vs k).map .sh
  | _, _ => none
section
variable {X : Cx} {K : PySem.W.Frag}
end
section
variable {cv : Nat → Value} {X : Cx} {W : WX} {a b c e o : Expr} {es : List Expr} {ta tb tc te to : TE} {fa fb fc : M Op} {f : M SV} {fs : M (List Op)} {ts : TA} {pos apos p p2 : Pos}
/-! d.get(k, x) -/
end
/-! len(d) -/
/-! ### x in a list, a tuple, a text -/
def eqF : D → D → Bool
  | .non, .non => true
  | .bl a, .bl b => a == b
  | .bl a, .int b => (if a then 1 else 0) == b
  | .int a, .bl b => a == (if b then 1 else 0)
  | .int a, .int b => a == b
  | .str a, .str b => a == b
  | _, _ => false
def flatD : D → Bool
  | .non => true
  | .bl _ => true
  | .int _ => true
  | .str _ => true
  | _ => false
def signIn (neg : Bool) (l : List Nat) (z : Str) : Option SV := match l with
  | [c] => some (.sh (.bl (neg ^^ decide (c ∈ z.cps.toList))))
  | _ => none
def gInS (neg : Bool) : D → D → Option SV
  | d, .lst l => if okPy d = true ∧ okPy (.lst l) = true then some (.sh (.bl (neg ^^ l.any fun z => eqD z d))) else none
  | d, .tup l => if flatD d = true ∧ l.all flatD = true then some (.sh (.bl (neg ^^ l.any fun z => eqF z d))) else none
  | .str s, .str z => signIn neg s.cps.toList z
  | _, _ => none
def rSIn2 (K : PySem.W.Frag) (neg : Bool) : R2 := fun x y H Q =>
  (∃ d ds, Dp K H x d ∧ Dp K H y (.list ds) ∧ SeqAt.shaped d = true ∧ SeqAt.shaped (.list ds) = true ∧ Q (.bl (neg ^^ ds.any fun z => PyData.eqv z d)) H) ∨
  ((∃ p xs, y = .ref p ∧ (SqL K H p xs ∨ SqT K H p xs) ∧ flatV x = true ∧ xs.all flatV = true ∧ Q (.bl (neg ^^ inV x xs)) H) ∨
   (∃ (c : Nat) (z : Str), x = .str ⟨#[c]⟩ ∧ y = .str z ∧ Q (.bl (neg ^^ decide (c ∈ z.cps.toList))) H))
section
variable {X : Cx} {K : PySem.W.Frag}
theorem op_sIn (hu : X.A.units + 65 < cLine) : OpR X (compareOp .In) (rSIn2 X.K false) := by
  intro pins s σ H x y v u Q I rx ry h
  unfold rSIn2 at h
  simp only [Bool.false_xor] at h
  rcases h with h | h | h
  · exact op_inD hu pins s σ H x y v u Q I rx ry h
  · exact op_in_seq pins s σ H x y v u Q I rx ry h
  · exact op_in_sign pins s σ H x y v u Q I rx ry h
theorem op_sNotIn (hu : X.A.units + 65 < cLine) : OpR X (compareOp .NotIn) (rSIn2 X.K true) := by
  intro pins s σ H x y v u Q I rx ry h
  unfold rSIn2 at h
  simp only [Bool.true_xor] at h
  rcases h with h | h | h
  · exact op_notInD hu pins s σ H x y v u Q I rx ry h
  · exact op_notIn_seq pins s σ H x y v u Q I rx ry h
  · exact op_notIn_sign pins s σ H x y v u Q I rx ry h
theorem toPyL_any (p : PyData → Bool) : ∀ l : List D, (toPyL l).any p = l.any fun z => p (toPy z)
  | [] => by unfold toPyL; rfl
  | d :: l => by
    conv => { lhs; unfold toPyL }
    rw [List.any_cons, List.any_cons, toPyL_any p l]
theorem shaped_lay {p : PyData} (h : SeqAt.shaped p = true) : p.canLay0 = true := SeqAt.canLay_of_shaped h
theorem flat_rep {H : Hp} {v : V} {d : D} (hf : flatD d = true) (r : Rep K H v d) : flatV v = true := by
  cases r <;> first | rfl | cases hf
theorem eqF_rep {H : Hp} {v w : V} {d e : D} (h1 : flatD d = true) (h2 : flatD e = true) (r1 : Rep K H v d) (r2 : Rep K H w e) : eqV v w = eqF d e := by
  cases r1 with
  | non => cases r2 <;> first | rfl | cases h2
  | bl _ => cases r2 <;> first | rfl | cases h2
  | int _ => cases r2 <;> first | rfl | cases h2
  | str _ => cases r2 <;> first | rfl | cases h2
  | _ => cases h1
theorem inV_rep {H : Hp} {v : V} {d : D} (hf : flatD d = true) (r : Rep K H v d) : ∀ {l : List D} {xs : List V}, l.all flatD = true → RepL K H xs l → xs.all flatV = true ∧ inV v xs = l.any fun z => eqF z d
  | [], _, _, .nil => ⟨rfl, rfl⟩
  | e :: l, _, h, .cons r0 t => by
    rw [List.all_cons, Bool.and_eq_true] at h
    obtain ⟨i1, i2⟩ := inV_rep hf r h.2 t
    refine ⟨by rw [List.all_cons, flat_rep h.1 r0, i1]; rfl, ?_⟩
    unfold inV at i2 ⊢
    rw [List.any_cons, List.any_cons, i2, eqF_rep h.1 hf r0 r]
theorem ok_sIn {neg : Bool} : Ok2 K (rSIn2 K neg) (gInS neg) := by
  intro F B H σ ρ x y dx dy sv Q R hx hy hg q
  unfold gInS at hg
  split at hg
  · rename_i l
    split at hg
    · rename_i hc
      cases hg
      obtain ⟨h1, h2⟩ := hc
      have d1 := Rep.dp dx x (shaped_lay h1) (hx.rep R.exB)
      have d2 := Rep.dp (.lst l) y (shaped_lay h2) (hy.rep R.exB)
      have e0 : toPy (.lst l) = .list (toPyL l) := by rw [toPy]
      have h2' : SeqAt.shaped (.list (toPyL l)) = true := by rw [← e0]; exact h2
      rw [e0] at d2
      refine .inl ⟨toPy dx, toPyL l, d1, d2, h1, h2', ?_⟩
      rw [toPyL_any]
      exact q _ B H R (Same.refl _) (.sh (.bl _))
    · cases hg
  · rename_i d l
    split at hg
    · rename_i hc
      cases hg
      obtain ⟨h1, h2⟩ := hc
      obtain ⟨a, xs, rfl, hs, r⟩ := hy.tup R.exB
      obtain ⟨g1, g2⟩ := inV_rep h1 (hx.rep (Same.refl B |>.trans R.exB)) h2 (r.mono R.exB _ _)
      refine .inr (.inl ⟨a, xs, rfl, .inr hs, flat_rep h1 (hx.rep R.exB), g1, ?_⟩)
      rw [g2]
      exact q _ B H R (Same.refl _) (.sh (.bl _))
    · cases hg
  · rename_i s z
    unfold signIn at hg
    split at hg
    · rename_i c es
      cases hg
      have es : s = ⟨#[c]⟩ := by
        cases s with
        | mk cps =>
          have := congrArg List.toArray es
          simp at this
          rw [this]
      subst es
      exact .inr (.inr ⟨c, z, hx.str, hy.str, q _ B H R (Same.refl _) (.sh (.bl _))⟩)
    · cases hg
  · cases hg
/-! ### list.index -/
/-! ### sorted, of whole numbers -/
/-! ### divmod, tuple -/
/-! ### ' '.join(..) -/
def strL : List D → Option (List Str)
  | [] => some []
  | .str s :: r => (strL r).map (s :: ·)
  | _ => none
theorem strL_map : ∀ {ds : List D} {ns : List Str}, strL ds = some ns → ds = ns.map D.str
  | [], _, h => by cases h; rfl
  | .str s :: r, ns, h => by
    have h : (strL r).map (s :: ·) = some ns := h
    cases e : strL r with
    | none =>
      rw [e] at h
      cases h
    | some ms =>
      rw [e] at h
      cases h
      rw [strL_map e]
      rfl
  | .non :: _, _, h | .bl _ :: _, _, h | .int _ :: _, _, h | .tup _ :: _, _, h | .lst _ :: _, _, h | .scr _ :: _, _, h | .dct _ _ :: _, _, h | .dck _ _ :: _, _, h | .ob _ _ _ :: _, _, h | .adr _ :: _, _, h | .fn _ _ _ :: _, _, h | .lv _ :: _, _, h => by cases h
theorem RepL.of_strs {K : PySem.W.Frag} {H : Hp} : ∀ {ns : List Str} {xs : List V}, RepL K H xs (ns.map D.str) → xs = ns.map V.str
  | [], _, .nil => rfl
  | n :: ns, _, .cons r t => by
    cases r
    rw [RepL.of_strs t]
    rfl
def gJoin : D → List D → Option SV
  | .str a, [.lst l] => (strL l).bind fun ys => if (ys.map (·.length)).sum + ys.length * a.length ≤ 16777216 then some (.sh (.str (Txt.join a ys))) else none
  | _, _ => none
theorem ok_join {K : PySem.W.Frag} : OkP K (fun x xs H Q => ∃ a p, ∃ ys : List Str, x = .str a ∧ xs = [.ref p] ∧ (SqL K H p (ys.map V.str) ∨ SqT K H p (ys.map V.str)) ∧ (ys.map (·.length)).sum + ys.length * a.length ≤ 16777216 ∧ Q (.str (Txt.join a ys)) H) gJoin := by
  intro F B H σ ρ x xs dx ds sv Q R hx hxs hg q
  unfold gJoin at hg
  split at hg
  · rename_i a l
    cases e : strL l with
    | none =>
      rw [e] at hg
      cases hg
    | some ys =>
      rw [e, Option.bind_some] at hg
      split at hg
      · rename_i hc
        cases hg
        obtain ⟨v, rfl, rv⟩ := hxs.one
        obtain ⟨p, zs, rfl, hp, r⟩ := rv.lst R.exB
        have hl := strL_map e
        subst hl
        have hz := r.of_strs
        subst hz
        exact ⟨a, p, ys, hx.str, rfl, .inl (SqL.of hp), hc, q _ B H R (Same.refl _) (.sh (.str _))⟩
      · cases hg
  · cases hg
end
end Sim

namespace Sim
open PySem PySem.Spec PyProof.Rows L2
/-! ### x[k] += e, of a list that a slot owns -/
section
variable {X : Cx}
end
section
variable {cv : Nat → Value} {X : Cx} {W : WX} {e k o : Expr} {te tk : TE} {f : M SV} {fk : M Op} {pos tpos : Pos} {op : Operator} {g : Int → Int → Int} {i : Nat}
end
/-! ### instances that a slot owns -/
section
variable {cv : Nat → Value} {X : Cx} {W : WX} {e o : Expr} {te : TE} {fe : M SV} {pos apos : Pos} {i : Nat} {C : Addr} {c f : Str}
end
/-! ### __init__ -/
section
variable {P : Program} {w' : World} {K : PySem.W.Frag} {mg : Str → Option Value} {base : Heap} {cv : Nat → Value}
end
section
variable {ρ : Sl} {c f : Str} {i L : Nat} {m : SM} {ds : List D} {d : D} {ns : List Str} {fs : List D} {c' : Nat}
end
end Sim

namespace Sim
open PySem PySem.Spec PyProof.Rows L2
/-! ### methods that may raise -/
section
variable {X : Cx} {o e : Expr} {es : List Expr} {ta : TE} {t : TA} {pos apos : Pos} {C f : Addr} {m : Str} {k : Nat} {fd : FuncData} {ps : List Str} {sp : Sp} {E : L2.St → XK} {CX : CXT}
end
def mtE (n : Nat) (Φ : List D → Option CR) (o : Op) (os : List Op) : M SV := fun ρ => if os.length = n then callM none Φ (o :: os) ρ else none
def mtOE (c m : Str) (n : Nat) (Φ : List D → Option CR) (fs : M (List Op)) (o : Op) : M SV := fun ρ => if isOb c m (get ρ o) = true then bnd fs (mtE n Φ o) ρ else none
def vMethE (c m : Str) (n : Nat) (Φ : List D → Option CR) (fo : M Op) (fs : M (List Op)) : M SV := bnd fo (mtOE c m n Φ fs)
section
variable {cv : Nat → Value} {X : Cx} {W : WX} {o e : Expr} {es : List Expr} {to : TE} {ts : TA} {fo : M Op} {fs : M (List Op)} {pos apos : Pos} {C : Addr} {c m : Str}
end
/-! ### making that may raise -/
section
variable {X : Cx} {e : Expr} {es : List Expr} {t : TA} {pos p : Pos} {C f : Addr} {x : Str} {k : Nat} {fd : FuncData} {ps : List Str} {sp : Sp} {E : L2.St → XK} {CX : CXT}
end
end Sim

namespace Sim
open PySem PySem.Spec PyProof.Rows L2
theorem units65 {k : Nat} {A : Around} (r : Room k A) : A.units + 65 < cLine := by have := r.un; omega
/-! ### a tuple of names, in a block -/
theorem sng_tupK {K : PySem.W.Frag} {X : Cx} {es : List Expr} {pos : Pos} {w : List Nat} {k len : Nat} {tgs : TGs} {gs : List D → Sl → Option Sl} (hK : X.K = K) (hc : X.calm = true) (h : SndGs X es tgs gs w)
    (hn : (assignEach es X.env).length = len := by rfl) (hst : (assignEach es X.env).findIdx? (·.1) = none := by rfl) : SndG X (.Tuple es k pos) (gTup K len tgs) (gT len gs) w := by
  subst hK
  exact sng_tup hc h hn hst
/-! ### three names, exchanged -/
section
variable {cv : Nat → Value} {X : Cx} {W : WX} {a b c : Expr}
end
end Sim

namespace Sim
open PySem PySem.Spec PyProof.Rows L2
/-! ### runs that the kernel can work out: what they tell the runs tell -/
def Le {β : Type} (f g : Sl → Option β) : Prop := ∀ ρ r, f ρ = some r → g ρ = some r
section
variable {f f' g g' h h' : M SV} {a a' b b' c c' : M Op} {as as' : M (List Op)} {t t' u u' : M Bool} {m m' n n' : SM} {q q' : M (Option Int)} {it it' : M Itb}
/-! #### statements -/
end
/-! #### comprehensions -/
/-! #### data, held against each other -/
mutual
def eqS : D → D → Bool
  | .non, .non => true
  | .bl a, .bl b => a == b
  | .int a, .int b => a == b
  | .str a, .str b => a == b
  | .tup l, .tup m => eqSL l m
  | .lst l, .lst m => eqSL l m
  | .ob c ns fs, .ob c' ns' fs' => c == c' && (ns == ns' && eqSL fs fs')
  | .lv a, .lv b => a == b
  | _, _ => false
def eqSL : List D → List D → Bool
  | [], [] => true
  | d :: ds, e :: es => eqS d e && eqSL ds es
  | _, _ => false
end
mutual
theorem eqS_eq : ∀ (d e : D), eqS d e = true → d = e
  | .non, e, h => by cases e <;> first | rfl | (unfold eqS at h; cases h)
  | .bl a, e, h => by
    cases e with
    | bl b => unfold eqS at h; rw [beq_iff_eq.mp h]
    | _ => unfold eqS at h; cases h
  | .int a, e, h => by
    cases e with
    | int b => unfold eqS at h; rw [beq_iff_eq.mp h]
    | _ => unfold eqS at h; cases h
  | .str a, e, h => by
    cases e with
    | str b => unfold eqS at h; rw [beq_iff_eq.mp h]
    | _ => unfold eqS at h; cases h
  | .tup l, e, h => by
    cases e with
    | tup m => unfold eqS at h; rw [eqSL_eq l m h]
    | _ => unfold eqS at h; cases h
  | .lst l, e, h => by
    cases e with
    | lst m => unfold eqS at h; rw [eqSL_eq l m h]
    | _ => unfold eqS at h; cases h
  | .ob c ns fs, e, h => by
    cases e with
    | ob c' ns' fs' =>
      unfold eqS at h
      rw [Bool.and_eq_true, Bool.and_eq_true] at h
      rw [beq_iff_eq.mp h.1, beq_iff_eq.mp h.2.1, eqSL_eq fs fs' h.2.2]
    | _ => unfold eqS at h; cases h
  | .lv a, e, h => by
    cases e with
    | lv b => unfold eqS at h; rw [beq_iff_eq.mp h]
    | _ => unfold eqS at h; cases h
  | .scr _, e, h => by unfold eqS at h; cases h
  | .dct _ _, e, h => by unfold eqS at h; cases h
  | .dck _ _, e, h => by unfold eqS at h; cases h
  | .adr _, e, h => by unfold eqS at h; cases h
  | .fn _ _ _, e, h => by unfold eqS at h; cases h
theorem eqSL_eq : ∀ (l m : List D), eqSL l m = true → l = m
  | [], m, h => by
    cases m with
    | nil => rfl
    | cons _ _ => unfold eqSL at h; cases h
  | d :: ds, m, h => by
    cases m with
    | nil => unfold eqSL at h; cases h
    | cons e es =>
      unfold eqSL at h
      rw [Bool.and_eq_true] at h
      rw [eqS_eq d e h.1, eqSL_eq ds es h.2]
end
end Sim

namespace Sim
open PySem PySem.Spec PyProof.Rows L2
/-! ### the new runs, applied -/
def isDtK : Option (Option SV) → Bool
  | some (some (.ow (.dt _ _))) => true
  | _ => false
def isDkK : Option (Option SV) → Bool
  | some (some (.ow (.dk _ _))) => true
  | _ => false
def dtIK (i : Nat) (ρ : Sl) (d : D) (kk : List Int) : Option (Option SV) → Option SO
  | some (some (.ow (.dt ks vs))) => if ks.length < 1000000 ∧ kk.length ≤ 1000000 then some (.nx (ρ.set i (some (.ow (.dt (putKs ks kk) (putVs ks vs kk d)))))) else none
  | _ => none
def dkIK (i : Nat) (ρ : Sl) (d : D) (kk : L2.Key) : Option (Option SV) → Option SO
  | some (some (.ow (.dk ks vs))) => if ks.length < 1000000 then some (.nx (ρ.set i (some (.ow (.dk (putKs ks kk) (putVs ks vs kk d)))))) else none
  | _ => none
section
variable {ρ : Sl} {i j l : Nat} {d x y z : D} {ks : List (List Int)} {kk : List L2.Key} {vs ds : List D} {a b : Int} {key : L2.Key} {f k : M Op} {as : M (List Op)} {o p : Op}
theorem e_dnK : vDnK ρ = some (.ok (.ow (.dk [] [])) ρ) := rfl
theorem e_dnT : vDnT ρ = some (.ok (.ow (.dt [] [])) ρ) := rfl
theorem e_dputT : sDPutT i f as ρ = exK (fun o ρ => if isDt ρ i = true then sEx as (fun p => dtK i o p) ρ else none) (f ρ) := rfl
theorem e_dputK : sDPutK i f k ρ = exK (fun o ρ => if isDk ρ i = true then sEx k (fun p => dpK i o p) ρ else none) (f ρ) := rfl
theorem e_isDt : isDt ρ i = isDtK ρ[i]? := by unfold isDt isDtK; generalize ρ[i]? = x; rcases x with _ | _ | _ | c <;> first | rfl | (cases c <;> rfl)
theorem e_isDk : isDk ρ i = isDkK ρ[i]? := by unfold isDk isDkK; generalize ρ[i]? = x; rcases x with _ | _ | _ | c <;> first | rfl | (cases c <;> rfl)
theorem k_isDt : isDtK (some (some (.ow (.dt ks vs)))) = true := rfl
theorem k_isDk : isDkK (some (some (.ow (.dk kk vs)))) = true := rfl
theorem e_dtK2 : dtK i (.val d) [.val (.int a), .val (.int b)] ρ = dtIK i ρ d [a, b] ρ[i]? := by
  unfold dtK dtIK
  show (match Op.val d, some [D.int a, D.int b], ρ[i]? with | .val d, some kd, some (some (.ow (.dt ks vs))) => (intL kd).bind fun k => if ks.length < 1000000 ∧ kd.length ≤ 1000000 then some (SO.nx (ρ.set i (some (.ow (.dt (putKs ks k) (putVs ks vs k d)))))) else none | _, _, _ => none) = _
  generalize ρ[i]? = x
  rcases x with _ | _ | _ | c <;> first | rfl | (cases c <;> rfl)
theorem e_dpK : dpK i (.val d) (.val x) ρ = (keyD x).bind fun k => dkIK i ρ d k ρ[i]? := by
  unfold dpK dkIK
  generalize ρ[i]? = w
  generalize hk : keyD x = kx
  rcases w with _ | _ | _ | c
  · cases kx <;> rfl
  · cases kx <;> rfl
  · cases kx <;> rfl
  · cases c with
    | dk ks vs =>
      show ((keyD x).bind fun k => if ks.length < 1000000 then some (SO.nx (ρ.set i (some (.ow (.dk (putKs ks k) (putVs ks vs k d)))))) else none) = _
      rw [hk]
    | _ => cases kx <;> rfl
theorem k_dtI : dtIK i ρ d [a, b] (some (some (.ow (.dt ks vs)))) = if ks.length < 1000000 then some (.nx (ρ.set i (some (.ow (.dt (putKs ks [a, b]) (putVs ks vs [a, b] d)))))) else none := by
  show (if ks.length < 1000000 ∧ 2 ≤ 1000000 then _ else _) = _
  by_cases h : ks.length < 1000000
  · rw [if_pos h, if_pos ⟨h, by decide⟩]
  · rw [if_neg h, if_neg fun q => h q.1]
theorem k_dkI : dkIK i ρ d key (some (some (.ow (.dk kk vs)))) = if kk.length < 1000000 then some (.nx (ρ.set i (some (.ow (.dk (putKs kk key) (putVs kk vs key d)))))) else none := rfl
theorem e_keyI {n : Int} : keyD (.int n) = some (.inl n) := rfl
theorem e_keyS {s : Str} : keyD (.str s) = some (.inr s) := rfl
theorem e_inK {neg : Bool} : gInK neg x (.dck kk vs) = (keyD x).map fun (k : L2.Key) => .sh (.bl (neg ^^ memK k kk)) := rfl
theorem e_dxK : gDxK (.dck kk vs) x = (keyD x).bind fun k => (lookD kk vs k).map .sh := rfl
theorem e_inT {neg : Bool} {l : List D} : gIn neg (.tup l) (.dct ks vs) = (intL l).map fun k => .sh (.bl (neg ^^ decide (k ∈ ks))) := rfl
theorem e_dxT {l : List D} : gDx (.dct ks vs) (.tup l) = (intL l).bind fun k => (dctV ks vs k).map .sh := rfl
theorem e_intL2 : intL [.int a, .int b] = some [a, b] := rfl
end
/-! ### dicts told by pairs -/
end Sim

namespace Sim
open PySem PySem.Spec PyProof.Rows L2
/-! ### lists worked out before they are used, fast looks into dicts -/
/-! #### what is changed is worked out -/
/-! #### loops whose states are worked out -/
/-! #### comparisons of whole numbers -/
end Sim

namespace Sim
open PySem PySem.Spec PyProof.Rows L2
/-! ### min of a list of pairs -/
section
variable {X : Cx}
end
end Sim

namespace Sim
open PySem PySem.Spec PyProof.Rows L2
/-! ### sorted, of tuples of whole numbers -/
section
variable {X : Cx}
end
end Sim

namespace Sim
open PySem PySem.Spec PyProof.Rows L2

/-! ### a list so many times -/
def repL (n : Nat) (l : List D) : List D := (List.replicate n l).flatten
def gRep : D → D → Option SV
  | .lst l, .int k => if -(2 ^ 62) ≤ k ∧ k < 2 ^ 62 ∧ l.length * k.toNat ≤ 1000000 then some (.fr (repL k.toNat l)) else none
  | _, _ => none
theorem RepL.rep {K : PySem.W.Frag} {H : Hp} {xs : List V} {ds : List D} (r : RepL K H xs ds) : ∀ n : Nat, RepL K H (List.replicate n xs).flatten (repL n ds)
  | 0 => .nil
  | n + 1 => by
    unfold repL
    rw [List.replicate_succ, List.replicate_succ, List.flatten_cons, List.flatten_cons]
    exact r.append (RepL.rep r n)
section
variable {cv : Nat → Value} {X : Cx} {W : WX} {K : PySem.W.Frag} {a b : Expr} {ta tb : TE} {fa fb : M Op} {pos : Pos}
theorem ok_rep : Ok2 K rRep gRep := by
  intro F B H σ ρ x y dx dy sv Q R hx hy hg q
  unfold gRep at hg
  split at hg
  · rename_i l k
    split at hg
    · rename_i hc
      cases hg
      obtain ⟨a, xs, rfl, h1, r1⟩ := hx.lst R.exB
      refine ⟨a, k, xs, rfl, hy.int, h1, by omega, by omega, ?_, fun p hp => q _ B _ (R.new hp) (Same.refl _) (RV.newL R hp (r1.rep _))⟩
      rw [r1.length]
      exact mill_le hc.2.2
    · cases hg
  · cases hg
theorem snd_rep (ha : SndO cv X W a ta fa) (hb : SndO cv X W b tb fb) : SndE cv X W (.BinOp a .Mult b pos) (tOp rRep ta tb) (vOp2 gRep fa fb) := snd_bin op_rep ok_rep ha hb
end
theorem repL_1 (d : D) (n : Nat) : repL n [d] = List.replicate n d := by
  unfold repL
  induction n with
  | zero => rfl
  | succ n ih => rw [List.replicate_succ, List.flatten_cons, ih, List.replicate_succ]; rfl
theorem e_rep1 {d : D} {k : Int} (h : -(2 ^ 62) ≤ k ∧ k < 2 ^ 62 ∧ k.toNat ≤ 1000000) : gRep (.lst [d]) (.int k) = some (.fr (List.replicate k.toNat d)) := by
  show (if -(2 ^ 62) ≤ k ∧ k < 2 ^ 62 ∧ 1 * k.toNat ≤ 1000000 then some (SV.fr (repL k.toNat [d])) else none) = _
  rw [if_pos ⟨h.1, h.2.1, by omega⟩, repL_1]
end Sim

namespace Sim
open PySem PySem.Spec PyProof.Rows L2

/-! ### more runs that the kernel works out fast -/
/-! #### comprehensions, the states worked out -/
/-! #### an item of a list -/
/-! #### d[k] = v -/
end Sim

namespace Sim
open PySem PySem.Spec PyProof.Rows L2

/-! ### a, b, .. = a list -/
def gLs (n : Nat) (gs : List D → Sl → Option Sl) : SV → Sl → Option Sl := fun sv ρ => match sv with
  | .sh (.lst l) => if l.length = n then gs l ρ else none
  | .ow (.lst l) => if l.length = n then gs l ρ else none
  | _ => none
theorem sng_lst {X : Cx} {es : List Expr} {pos : Pos} {w : List Nat} {k len : Nat} {tgs : TGs} {gs : List D → Sl → Option Sl} (hc : X.calm = true) (h : SndGs X es tgs gs w)
    (hn : (assignEach es X.env).length = len := by rfl) (hst : (assignEach es X.env).findIdx? (·.1) = none := by rfl) : SndG X (.Tuple es k pos) (gLst X.K len tgs) (gLs len gs) w := by
  refine ⟨pg_lst hc h.pg hn hst, fun F B H σ ρ v sv ρ' Q R r h1 q => ?_⟩
  unfold gLs at h1
  split at h1
  · rename_i l
    split at h1
    · rename_i hl
      cases r with
      | sh r =>
        cases r with
        | lst ha rl => exact ⟨_, _, rfl, SqL.of (R.exB _ _ ha), rl.length.trans hl, h.ad F B H σ ρ _ l ρ' Q R rl h1 q⟩
    · cases h1
  · rename_i l
    split at h1
    · rename_i hl
      cases r with
      | @fr a o xs c hF hB hH hO rl no =>
        have hO : o = .lst xs := hO
        subst hO
        exact ⟨_, _, rfl, SqL.of hH, rl.length.trans hl, h.ad F B H σ ρ _ l ρ' Q R rl h1 q⟩
    · cases h1
  · cases h1
theorem e_gLs1 {n : Nat} {gs : List D → Sl → Option Sl} {l : List D} {ρ : Sl} : gLs n gs (.sh (.lst l)) ρ = if l.length = n then gs l ρ else none := rfl
theorem e_gLs2 {n : Nat} {gs : List D → Sl → Option Sl} {l : List D} {ρ : Sl} : gLs n gs (.fr l) ρ = if l.length = n then gs l ρ else none := rfl
end Sim

namespace Sim
open PySem PySem.Spec PyProof.Rows L2

/-! ### a making that may raise -/
inductive MkR where
  | ok (d : D)
  | ex (c : Nat)
def mkRO (ρ : Sl) : MkR → Out SV
  | .ok d => .ok (.sh d) ρ
  | .ex c => .ex c ρ
def mkOE (n : Nat) (Φ : List D → Option MkR) (ρ : Sl) : Option (List D) → Option (Out SV)
  | some ds => if ds.length = n then (Φ ds).map (mkRO ρ) else none
  | none => none
def vMkE (n : Nat) (Φ : List D → Option MkR) (fs : M (List Op)) : M SV := bnd fs fun os ρ => mkOE n Φ ρ (vals os)
section
variable {cv : Nat → Value} {X : Cx} {W : WX} {e : Expr} {es : List Expr} {ts : TA} {fs : M (List Op)} {pos p : Pos} {C f : Addr} {c : Str}
end
/-! ### a def under another name -/
theorem e_mkE {n : Nat} {Φ : List D → Option MkR} {fs : M (List Op)} {ρ : Sl} : vMkE n Φ fs ρ = bnK (fun os ρ => mkOE n Φ ρ (vals os)) (fs ρ) := rfl
theorem k_mkE {n : Nat} {Φ : List D → Option MkR} {ρ : Sl} {ds : List D} : mkOE n Φ ρ (some ds) = if ds.length = n then (Φ ds).map (mkRO ρ) else none := rfl
theorem k_mkR1 {ρ : Sl} {d : D} : mkRO ρ (.ok d) = .ok (.sh d) ρ := rfl
theorem k_mkR2 {ρ : Sl} {c : Nat} : mkRO ρ (.ex c) = .ex c ρ := rfl
end Sim

namespace Sim
open PySem PySem.Spec PyProof.Rows L2

/-! ### texts: partition, split, int, walked -/
def gPartn : D → List D → Option SV
  | .str a, [.str b] => if (b.length == 0) = false ∧ a.length ≤ 1000000 then some (.sh (.tup [.str (Txt.partition a b).1, .str (Txt.partition a b).2.1, .str (Txt.partition a b).2.2])) else none
  | _, _ => none
def gSplit : D → List D → Option SV
  | .str a, [.str b] => if (b.length == 0) = false ∧ a.length ≤ 1000000 then some (.fr ((Txt.split a b).map D.str)) else none
  | _, _ => none
def gIntS : List D → Option SV
  | [.str a] => if a.length ≤ 640 then (PySem.intText? a).map fun n => .sh (.int n) else none
  | _ => none
theorem RepL.strs {K : PySem.W.Frag} {H : Hp} : ∀ ns : List Str, RepL K H (ns.map V.str) (ns.map D.str)
  | [] => .nil
  | n :: ns => .cons (.str n) (RepL.strs ns)
section
variable {K : PySem.W.Frag}
theorem ok_partn : OkP K (fun x xs H Q => ∃ a b, x = .str a ∧ xs = [.str b] ∧ (b.length == 0) = false ∧ a.length ≤ sizeLine ∧
      ∀ p, H p = none → Q (.ref p) (upd H p (.tup [.str (Txt.partition a b).1, .str (Txt.partition a b).2.1, .str (Txt.partition a b).2.2]))) gPartn := by
  intro F B H σ ρ x xs dx ds sv Q R hx hxs hg q
  unfold gPartn at hg
  split at hg
  · rename_i a b
    split at hg
    · rename_i hc
      cases hg
      obtain ⟨v, rfl, rv⟩ := hxs.one
      refine ⟨a, b, hx.str, congrArg (fun v => [v]) rv.str, hc.1, mill_le hc.2, fun p hp => ?_⟩
      obtain ⟨R2, sm⟩ := R.newB (o := .tup [.str (Txt.partition a b).1, .str (Txt.partition a b).2.1, .str (Txt.partition a b).2.2]) hp
      exact q _ _ _ R2 sm (.sh (.tup (.inl upd_same) (.cons (.str _) (.cons (.str _) (.cons (.str _) .nil)))))
    · cases hg
  · cases hg
theorem mill2_le {n : Nat} (h : n ≤ 1000000) : n + 2 ≤ sizeLine := by
  have : (1000002 : Nat) ≤ sizeLine := by decide
  omega
theorem ok_split : OkP K (fun x xs H Q => ∃ a b, x = .str a ∧ xs = [.str b] ∧ (b.length == 0) = false ∧ a.length + 2 ≤ sizeLine ∧ rNewStrs (Txt.split a b) H Q) gSplit := by
  intro F B H σ ρ x xs dx ds sv Q R hx hxs hg q
  unfold gSplit at hg
  split at hg
  · rename_i a b
    split at hg
    · rename_i hc
      cases hg
      obtain ⟨v, rfl, rv⟩ := hxs.one
      exact ⟨a, b, hx.str, congrArg (fun v => [v]) rv.str, hc.1, mill2_le hc.2, fun p hp => q _ B _ (R.new hp) (Same.refl _) (RV.newL R hp (RepL.strs _))⟩
    · cases hg
  · cases hg
theorem ok_intS : OkA K (fun xs H Q => ∃ a n, xs = [.str a] ∧ PySem.intText? a = some n ∧ a.length ≤ 640 ∧ Q (.int n) H) gIntS := by
  intro F B H σ ρ xs ds sv Q R hx hg q
  unfold gIntS at hg
  split at hg
  · rename_i a
    split at hg
    · rename_i hc
      cases e : PySem.intText? a with
      | none =>
        rw [e] at hg
        cases hg
      | some n =>
        rw [e] at hg
        cases hg
        obtain ⟨v, rfl, rv⟩ := hx.one
        exact ⟨a, n, congrArg (fun v => [v]) rv.str, e, hc, q _ B H R (Same.refl _) (.sh (.int _))⟩
    · cases hg
  · cases hg
end
def signD (s : Str) : List D := s.cps.toList.map fun c => .str ⟨#[c]⟩
def jStr (o : Op) (ρ : Sl) : Option Itb := match get ρ o with
  | some (.str s) => some ⟨signD s, []⟩
  | _ => none
def iSg (a : M Op) : M Itb := liftI a jStr
section
variable {cv : Nat → Value} {X : Cx} {W : WX} {e tg : Expr} {te : TE} {f : M Op}
theorem sni_str (h : SndO cv X W e te f) : SndI cv X W tg e (iStr te) (iSg f) := by
  refine ⟨pi_str h.pe, fun F B H σ ρ Q R q => ?_⟩
  refine h.ad F B H σ ρ _ R (wpm_mono (wpm_bnd q) (fun o ρ1 q v B1 H1 R1 sm1 ov => ?_) fun _ _ q => q)
  obtain ⟨ib, e1, q⟩ := wpm_map q
  unfold jStr at e1
  split at e1
  · rename_i s e2
    cases e1
    have r := (ov.rep R1 e2).str
    refine ⟨s, r, q _ B1 H1 R1 sm1 fun F2 B2 H2 σ2 ρ2 R2 sm2 g i => ?_⟩
    refine ⟨fun d hd => ?_, fun hl => ?_⟩
    · have hd : (signD s)[i]? = some d := hd
      unfold signD at hd
      rw [List.getElem?_map] at hd
      cases ec : s.cps.toList[i]? with
      | none =>
        rw [ec] at hd
        cases hd
      | some c =>
        rw [ec] at hd
        cases hd
        rw [Array.getElem?_toList] at ec
        refine ⟨(Array.getElem?_eq_some_iff.mp ec).1, fun x H' hyd => ?_⟩
        obtain ⟨rfl, c', hc', rfl⟩ := hyd
        rw [ec] at hc'
        cases hc'
        exact ⟨B2, R2, Same.refl _, .str _⟩
    · have hl : (signD s).length ≤ i := hl
      unfold signD at hl
      rw [List.length_map, Array.length_toList] at hl
      exact hl
  · cases e1
end
theorem k_jSg {s : Str} {ρ : Sl} : jStr (.val (.str s)) ρ = some ⟨signD s, []⟩ := rfl
theorem e_iSg {f : M Op} {ρ : Sl} : iSg f ρ = bnK (fun o ρ => itK ρ (jStr o ρ)) (f ρ) := rfl
theorem e_partn {a b : Str} (h : (b.length == 0) = false ∧ a.length ≤ 1000000) : gPartn (.str a) [.str b] = some (.sh (.tup [.str (Txt.partition a b).1, .str (Txt.partition a b).2.1, .str (Txt.partition a b).2.2])) := if_pos h
theorem e_split {a b : Str} (h : (b.length == 0) = false ∧ a.length ≤ 1000000) : gSplit (.str a) [.str b] = some (.fr ((Txt.split a b).map D.str)) := if_pos h
theorem e_intS {a : Str} {n : Int} (h : a.length ≤ 640) (e : PySem.intText? a = some n) : gIntS [.str a] = some (.sh (.int n)) := by
  show (if a.length ≤ 640 then (PySem.intText? a).map fun n => SV.sh (.int n) else none) = _
  rw [if_pos h, e]
  rfl
end Sim

namespace Sim
open PySem PySem.Spec PyProof.Rows L2
/-! ### a call of three arguments, the second one a new list that is changed and then forgotten -/
section
variable {K : PySem.W.Frag} {F B H : Hp} {σ : L2.St} {ρ : Sl}
end
def vCallGK (Φ : List D → Option CR) (o1 : Op) (sv : SV) (o3 : Op) : M SV := fun ρ => match o1, sv, o3 with
  | .val d1, .ow (.lst l), .val d3 => cfK ρ (Φ [d1, .lst l, d3])
  | _, _, _ => none
def vCallG (Φ : List D → Option CR) (f1 : M Op) (f2 : M SV) (f3 : M Op) : M SV := bnd f1 fun o1 => bnd f2 fun sv => bnd f3 fun o3 => vCallGK Φ o1 sv o3
section
variable {cv : Nat → Value} {X : Cx} {W : WX} {e1 e2 e3 : Expr} {t1 t2 t3 : TE} {f1 f3 : M Op} {f2 : M SV} {pos p : Pos}
end
theorem e_callG {Φ : List D → Option CR} {f1 f3 : M Op} {f2 : M SV} {ρ : Sl} : vCallG Φ f1 f2 f3 ρ = bnK (fun o1 => bnd f2 fun sv => bnd f3 fun o3 => vCallGK Φ o1 sv o3) (f1 ρ) := rfl
theorem k_callG {Φ : List D → Option CR} {l : List D} {d1 d3 : D} {ρ : Sl} : vCallGK Φ (.val d1) (.fr l) (.val d3) ρ = cfK ρ (Φ [d1, .lst l, d3]) := rfl
end Sim

namespace Sim
open PySem PySem.Spec PyProof.Rows L2
/-! ### dict(zip(xs, ys)): keys whole numbers or texts, none twice -/
section
variable {cv : Nat → Value} {X : Cx} {W : WX} {a b : Expr} {ta : TA} {fs : M (List Op)} {p p2 pos pos2 : Pos}
end
end Sim

namespace Sim
open PySem PySem.Spec PyProof.Rows L2
/-! ### walks over what is a list or a tuple -/
section
variable {cv : Nat → Value} {X : Cx} {W : WX} {e tg : Expr} {te : TE} {f : M Op}
end
end Sim

namespace Sim
open PySem PySem.Spec PyProof.Rows L2
/-! ### a tuple behind a tuple -/
section
variable {cv : Nat → Value} {X : Cx} {W : WX} {a b : Expr} {ta tb : TE} {fa fb : M Op} {pos : Pos}
end
end Sim

namespace Sim
open PySem PySem.Spec PyProof.Rows L2
/-! ### the changed argument is handed back: its list is the caller's no more -/
def dropO (io : Option Nat) (os : List Op) (ρ : Sl) : Sl := match ioSlot io os with
  | some i => ρ.set i none
  | none => ρ
def outB (io : Option Nat) (os : List Op) (ρ : Sl) : CR → Out SV
  | .ret r _ => .ok r (dropO io os ρ)
  | .exc c _ => .ex c (dropO io os ρ)
def callB (kj : Nat) (Φ : List D → Option CR) (os : List Op) : M SV := fun ρ => match gets ρ os with
  | none => none
  | some ds => match Φ ds with
    | none => none
    | some res => if (ioOk (some kj) os ρ && (noBr (some kj) os ρ || resOk (some kj) os ρ res)) = true then some (outB (some kj) os ρ res) else none
def vCallB (n kj : Nat) (Φ : List D → Option CR) (as : M (List Op)) : M SV := bnd as fun os ρ => if os.length = n then callB kj Φ os ρ else none
section
variable {cv : Nat → Value} {X : Cx} {W : WX} {e : Expr} {es : List Expr} {ts : TA} {fs : M (List Op)} {pos p : Pos}
end
def runG (kj : Nat) (L : Nat) (m : SM) (ds : List D) : Option CR := match m (startS (some kj) L ds) with
  | some (.nx _) => some (.ret (.sh .non) [])
  | some (.rt sv _) => some (.ret sv [])
  | some (.ex c _) => some (.exc c [])
  | _ => none
section
variable {P : Program} {w' : World} {K : PySem.W.Frag} {mg : Str → Option Value} {base : Heap} {cv : Nat → Value}
end
/-! equations of the runs -/
section
variable {ρ : Sl} {i j kj L : Nat} {ds : List D} {m : SM} {os : List Op} {Φ : List D → Option CR} {as : M (List Op)} {sv : SV} {r : CR}
def clB (kj : Nat) (Φ : List D → Option CR) (os : List Op) (ρ : Sl) : Option (List D) → Option (Out SV)
  | none => none
  | some ds => match Φ ds with
    | none => none
    | some res => if (ioOk (some kj) os ρ && (noBr (some kj) os ρ || resOk (some kj) os ρ res)) = true then some (outB (some kj) os ρ res) else none
def rsB (kj : Nat) (os : List Op) (ρ : Sl) : Option CR → Option (Out SV)
  | none => none
  | some res => if (ioOk (some kj) os ρ && (noBr (some kj) os ρ || resOk (some kj) os ρ res)) = true then some (outB (some kj) os ρ res) else none
def drK (ρ : Sl) : Option Nat → Sl
  | some i => ρ.set i none
  | none => ρ
def ruG : Option SO → Option CR
  | some (.nx _) => some (.ret (.sh .non) [])
  | some (.rt sv _) => some (.ret sv [])
  | some (.ex c _) => some (.exc c [])
  | _ => none
theorem e_callB : vCallB j kj Φ as ρ = bnK (fun os ρ => if os.length = j then callB kj Φ os ρ else none) (as ρ) := rfl
theorem e_clB : callB kj Φ os ρ = clB kj Φ os ρ (gets ρ os) := by unfold callB clB; generalize gets ρ os = x; cases x <;> rfl
theorem k_clB : clB kj Φ os ρ (some ds) = rsB kj os ρ (Φ ds) := by
  show (match Φ ds with | none => _ | some res => _) = _
  unfold rsB
  cases Φ ds <;> rfl
theorem k_rsB : rsB kj os ρ (some r) = if (ioOk (some kj) os ρ && (noBr (some kj) os ρ || resOk (some kj) os ρ r)) = true then some (outB (some kj) os ρ r) else none := rfl
theorem e_outB1 {io : Option Nat} {out : List D} : outB io os ρ (.ret sv out) = .ok sv (dropO io os ρ) := rfl
theorem e_outB2 {io : Option Nat} {c : Nat} {out : List D} : outB io os ρ (.exc c out) = .ex c (dropO io os ρ) := rfl
theorem e_dropO {io : Option Nat} : dropO io os ρ = drK ρ (ioSlot io os) := by unfold dropO drK; cases ioSlot io os <;> rfl
theorem k_dr : drK ρ (some i) = ρ.set i none := rfl
theorem e_runG : runG kj L m ds = ruG (m (startS (some kj) L ds)) := by unfold runG ruG; generalize m (startS (some kj) L ds) = x; rcases x with _ | _ | _ | _ | _ | _ <;> rfl
theorem k_rg1 : ruG (some (.nx ρ)) = some (.ret (.sh .non) []) := rfl
theorem k_rg2 : ruG (some (.rt sv ρ)) = some (.ret sv []) := rfl
theorem k_rg3 {c : Nat} : ruG (some (.ex c ρ)) = some (.exc c []) := rfl
end
end Sim

namespace Sim
open PySem PySem.Spec PyProof.Rows L2
/-! ### is not, of truths -/
/-! ### sorted, of roads: pairs of pairs of whole numbers -/
abbrev R4 := (Int × Int) × (Int × Int)
section
variable {X : Cx}
end
end Sim

namespace Sim
open PySem PySem.Spec PyProof.Rows L2
/-! ### a lambda of one parameter that captures whole numbers, handed on to a def that calls it -/
section
variable {X : Cx} {pins : List (Addr × Obj)} {σ : L2.St} {H : Hp} {s : Shared}
end
/-! #### the call of what was handed on -/
section
variable {P0 : Program} {w0 : World} {K : PySem.W.Frag} {mg : Str → Option Value} {base : Heap}
end
/-! #### the def that gets the lambda -/
/-! #### the def that makes the lambda -/
section
variable {cv : Nat → Value} {X : Cx} {W : WX} {e1 e2 e3 : Expr} {t1 t2 t3 : TE} {f1 f2 f3 : M Op}
end
end Sim

namespace Sim
open PySem PySem.Spec PyProof.Rows L2
/-! ### defs that make lambdas, defs that get them: as they stand in the text -/
section
variable {P : Program} {w' : World} {K : PySem.W.Frag} {mg : Str → Option Value} {base : Heap} {cv : Nat → Value}
end
/-! runs of lambdas, for the simp set -/
section
variable {ρ : Sl} {i : Nat} {f : Addr} {Ψ : List D → Option CR} {fs : M (List Op)} {os : List Op}
end
end Sim

namespace Sim
open PySem PySem.Spec PyProof.Rows L2
/-! ### a list of a range -/
def LrOk (i j : Int) : Prop := 0 ≤ i ∧ i ≤ 1000000 ∧ 0 ≤ j ∧ j ≤ 1000000
instance (i j : Int) : Decidable (LrOk i j) := by unfold LrOk; infer_instance
theorem LrOk.ok {i j : Int} (h : LrOk i j) : RgOk i j := RgOk.of_le h.1 (by have := h.2.2.2; omega) (by have := h.2.1; omega) h.2.2.1
section
variable {K : PySem.W.Frag}
end
section
variable {cv : Nat → Value} {X : Cx} {W : WX} {a b : Expr} {p pos p2 pos2 : Pos} {ta tb : TE} {fa fb : M Op}
end
section
end
/-! ### methods that raise: their runs -/
theorem e_methE {c m : Str} {n : Nat} {Φ : List D → Option CR} {fo : M Op} {fs : M (List Op)} {ρ : Sl} : vMethE c m n Φ fo fs ρ = bnK (mtOE c m n Φ fs) (fo ρ) := rfl
theorem e_mtOE {c m : Str} {n : Nat} {Φ : List D → Option CR} {fs : M (List Op)} {o : Op} {ρ : Sl} : mtOE c m n Φ fs o ρ = if isOb c m (get ρ o) = true then bnd fs (mtE n Φ o) ρ else none := rfl
theorem e_mtE {n : Nat} {Φ : List D → Option CR} {o : Op} {os : List Op} {ρ : Sl} : mtE n Φ o os ρ = if os.length = n then callM none Φ (o :: os) ρ else none := rfl
end Sim

namespace Sim
open PySem PySem.Spec PyProof.Rows L2
/-! ### d[k] = v and d.get(k, x) where k is any expression that tells a tuple of whole numbers (laws that read no module's tuple) -/
section
variable {cv : Nat → Value} {X : Cx} {W : WX} {a b c e o : Expr} {ta tb tc te to : TE} {fa fb fc : M Op} {f : M SV} {pos apos p p2 : Pos}
end
end Sim

namespace Sim
open PySem PySem.Spec PyProof.Rows L2
/-! ### sorted, of lists of whole numbers -/
/-! ### max of a list of whole numbers -/
end Sim

namespace Sim
open PySem PySem.Spec PySem.Calls PyProof.Rows L2
/-! ### sorted(xs, key = f), where f's calls keep what T tells -/
section
variable {prog : Program} {w : World} {A : Around} {E : Value → Shared → Prop} {s : Shared} {P : PySem.Fin → Shared → Prop} {T : Nat → Shared → Prop} {f : Value} {a kS : Addr} {vs : List Value} {kz : List Int} {e1 : Nat}
end
/-! #### the lambda called by what its maker calls -/
section
variable {X : Cx} {pins : List (Addr × Obj)} {σ : L2.St} {H : Hp} {s : Shared}
end
/-! #### sorted by keys, items in their order where keys are alike -/
/-! #### sorted(xs, key = lambda ..), in its maker -/
section
variable {X : Cx} {pins : List (Addr × Obj)} {σ : L2.St} {H : Hp} {s : Shared}
end
/-! #### its run -/
section
variable {cv : Nat → Value} {X : Cx} {W : WX} {es : List Expr} {ts : TA} {fs : M (List Op)}
end
end Sim

namespace Sim
open PySem PySem.Spec PyProof.Rows L2
/-! ### a list comprehension whose element may raise: its frame -/
theorem funFrames_less {h h' B B' : Heap} {C : Addr} {oC : Obj} (hC : B.get? C = some oC) (hB : ∀ b, B.get? b = none → B'.get? b = none) (hk : ∀ b, b ≠ C → h'.get? b = h.get? b) : ∀ {l : List Env}, h.FunFrames B l → h'.FunFrames B' l
  | [], _ => trivial
  | env :: rest, ⟨hm, ⟨L, o, hf, hn, ho, hnf⟩, hr⟩ => ⟨hm, ⟨L, o, hf, hB L hn, (hk L fun e => by rw [e, hC] at hn; cases hn).trans ho, hnf⟩, funFrames_less hC hB hk hr⟩
theorem traced_less {h h' B B' : Heap} {C e : Addr} {oC : Obj} {Z : Obj → Prop} {fl : Value} (hC : B.get? C = some oC) (hB : ∀ b, B.get? b = none → B'.get? b = none) (hk : ∀ b, b ≠ C → h'.get? b = h.get? b) (he : B.get? e = none) (t : HandSPX.TracedZ h B e Z fl) : HandSPX.TracedZ h' B' e Z fl := by
  obtain ⟨oe, vs, T, oT, ts, h1, hz, hd, h2, hnT, hTe, hT, hdT, h3⟩ := t
  exact ⟨oe, vs, T, oT, ts, (hk e fun z => by rw [z, hC] at he; cases he).trans h1, hz, hd, h2, hB T hnT, hTe, (hk T fun z => by rw [z, hC] at hnT; cases hnT).trans hT, hdT, h3⟩
section
variable {M : Model} {A : Around} {E : Value → Shared → Prop} {s : Shared} {Z : Obj → Prop} {base : Heap} {env : Env} {outer l : List Env} {L C e : Addr}
theorem note_held {Q : Unit → Shared → Prop} (hCL : C ≠ L) (hZ : PXN.Steady1 Z) (hfr : A.frames = some (env :: outer)) (hf : env.frame = some L) (hfl : HandSPX.HeldZ base (env :: outer) e Z C s.heap)
    (hQ : ∀ h', HandSPX.HeldZ base (env :: outer) e Z L h' → s.heap.UpToSlots h' → Q () { s with heap := h' }) : wpAny M A (noteFrame (.ref e) env) Q E s := by
  obtain ⟨hkb, hen, hl, oe, vs, T, oT, ts, he, hz, hd, h1, hnT, hTe, hT, hdT, h3⟩ := hfl
  unfold noteFrame
  simp only [hf]
  refine wpAny_bind (wpAny_field he hd h1 ?_)
  rw [if_pos (show (Value.ref T != Value.none) = true from by simp)]
  refine wpAny_bind (wpAny_field hT hdT h3 ?_)
  rw [if_neg (show ¬ ((rawInt C == rawInt L) = true) from by
    simp only [rawInt, beq_iff_eq, Value.int.injEq, and_true]
    intro z
    exact hCL (Int.ofNat.inj z))]
  refine wpAny_bind (wpAny_setField hT hdT (Array.getElem?_eq_some_iff.mp h3).1 ?_)
  have other : ∀ b, b ≠ T → (s.heap.update T (Obj.mapFields (·.setIfInBounds 3 Value.none))).get? b = s.heap.get? b := fun b hb => Heap.get?_update_other _ _ (Ne.symm hb)
  have noRecord : ∀ b o, s.heap.get? b = some o → (∀ vs, o.data ≠ .fields vs) → b ≠ T := fun b o hb hnf q => by
    rw [q, hT] at hb; injection hb with hb; subst hb; exact hnf ts hdT
  refine PXN.wpAny_entryZ hZ hfr (hl.of_keeps fun b o hb hnf => ⟨o, (other b (noRecord b o hb hnf)).trans hb, rfl⟩) hf ((other e (Ne.symm hTe)).trans he)
    (fun b o hbo => (other b fun q => by rw [q, hnT] at hbo; cases hbo).trans (hkb b o hbo)) hen hd (Array.getElem?_eq_some_iff.mp h1).1 hz fun h' hN => ?_
  obtain ⟨x1, x2, x3, x4⟩ := hN
  exact hQ h' ⟨x1, hen, x2, x3⟩ fun b o hb hnf => x4 b o ((other b (noRecord b o hb hnf)).trans hb) hnf
end
/-- what a comprehension leaves, the frame of its block known -/
def compPostE (M : Model) (A : Around) (E : Value → Shared → Prop) (use : Option (Value → Sem Unit)) (Q : Value → Shared → Prop) (acc : Value) (C : Addr) (fr : Option Addr) (r : Result) (s' : Shared) : Prop :=
  match r with
  | .ok f => compPost M A E use Q acc C (.ok f) s'
  | .error x => ∃ m, s'.heap.Ns C m ∧ ∀ h', Heap.SameBut C s'.heap h' → ∀ cenv : Env, cenv.locals = C → cenv.frame = fr → wpAny M A (passOn "comprehension.variables-let-go" x cenv : Sem Value) (fun _ _ => False) E { s' with heap := h' }
theorem comprehension_freeE {M : Model} {A : Around} {E : Value → Shared → Prop} {s : Shared} {env : Env} {e : Expr} {scope : Scope} {pos : Pos} {newAcc first : Sem Value} {g : Comprehension} {gs : List Comprehension} {cl : List (Str × Addr)} {use : Option (Value → Sem Unit)}
    {Q : Value → Shared → Prop}
    (hcl : clausesOf e = g :: gs) (hs : ∀ x, foldedSetIterable g.iter env x = pure x) (hclos : closureFor scope env = pure cl)
    (hkind : scope.kind = .function) (hnames : ∀ x ∈ scope.names, x.2 = .local → scope.names.lookup x.1 = some .local)
    (h : wpAny M A first (fun x s₁ => wpAny M A (pyIter x) (fun it s₂ => wpAny M A newAcc (fun acc s₃ =>
      wpAny M A (newFunctionEnv scope env.globals cl [] env.qual none .none (some env)) (fun cenv s₄ =>
        codeAny M A (.compStart e 0 it acc { cenv with scope := relabel scope env }) (compPostE M A E use Q acc cenv.locals cenv.frame) s₄) E s₃) E s₂) E s₁) E s) :
    wpAny M A (comprehension e scope env pos newAcc false first use) Q E s := by
  unfold comprehension
  rw [hclos, hcl]
  refine wpAny_bind (wpAny_mono h (fun x s₁ h₁ => wpAny_bind (wpAny_standAt (wpAny_bind (wpAny_of_eq (hs x) (wpAny_bind (wpAny_holding (wpAny_mono h₁ (fun it s₂ h₂ =>
    wpAny_standIf (wpAny_bind (wpAny_mono h₂ (fun acc s₃ h₃ => wpAny_bind (wpAny_pure (wpAny_bind (wpAny_mono h₃ (fun cenv s₄ h₄ => ?_) fun _ _ h' => h')))) fun _ _ h' => h')))
      fun _ _ h' => h'))))))) fun _ _ h' => h')
  dsimp only
  have hv : ∀ x ∈ (scope.names.filter fun x => (x.2 == .local || x.2 == .cell) && x.1 != (".0" : Str)).reverse, x.2 = .local →
      Env.kindOf { cenv with scope := relabel scope env } x.1 = some .local := fun x hx hl => lookup_relabel_local (hnames x (List.mem_filter.mp (List.mem_reverse.mp hx)).1 hl)
  have hv' : ∀ x ∈ (scope.names.filter fun x => (x.2 == .local || x.2 == .cell) && x.1 != (".0" : Str)).reverse.drop 1 ++ (scope.names.filter fun x => (x.2 == .local || x.2 == .cell) && x.1 != (".0" : Str)).reverse.take 1,
      x.2 = .local → Env.kindOf { cenv with scope := relabel scope env } x.1 = some .local := fun x hx hl => by
    rcases List.mem_append.mp hx with h1 | h1
    · exact hv x (List.mem_of_mem_drop h1) hl
    · exact hv x (List.mem_of_mem_take h1) hl
  refine wpAny_holding (wpAny_bind (wpAny_attempt (wpAny_holding (wpAny_run (codeAny_mono h₄ fun r s' hr => ?_)))))
  cases r with
  | ok f =>
    cases use with
    | none =>
      obtain ⟨m, hn, hr⟩ := hr
      exact wpAny_bind (wpAny_holding (wpAny_comp_letGo (cenv := { cenv with scope := relabel scope env }) hkind _ s' m hv hn fun h' m' _ hs' => wpAny_pure (hr h' hs')))
    | some u =>
      refine wpAny_bind (wpAny_rule (wpAny_bind (wpAny_holding (wpAny_mono hr (fun _ s'' hr' => ?_) fun _ _ h' => h'))))
      obtain ⟨m, hn, hr'⟩ := hr'
      exact wpAny_bind (wpAny_comp_letGo (cenv := { cenv with scope := relabel scope env }) hkind _ s'' m hv' hn fun h' m' _ hs' => wpAny_pure (hr' h' hs'))
  | error x =>
    obtain ⟨m, hn, hr⟩ := hr
    exact wpAny_bind (wpAny_holding (wpAny_comp_letGo (cenv := { cenv with scope := relabel scope env }) hkind _ s' m hv hn fun h' m' _ hs' => wpAny_mono (hr h' hs' _ rfl rfl) (fun _ _ f => f.elim) fun _ _ y => y))
section
variable {X : Cx} {W : WX}
def compE (X : Cx) (u : Value) (C : Addr) (s' : Shared) : Prop := ∃ m, s'.heap.Ns C m ∧ ∀ h', Heap.SameBut C s'.heap h' → ∀ cenv : Env, cenv.locals = C → cenv.frame = X.env.frame → wpAny (model X.prog X.w) X.A (passOn "comprehension.variables-let-go" u cenv : Sem Value) (fun _ _ => False) X.xe { s' with heap := h' }
theorem takes_blk (hs : X.stack = X.env :: X.outer) (hf : X.env.frame = some X.env.locals) (tk : L2N.Takes X W) {pins : List (Addr × Obj)} {σ : L2.St} {H3 : Hp} {s3 : Shared} {scope : Scope} {ce : Env} {fp : List Addr} (I3 : Inv X pins σ H3 s3) (f3 : ∀ b ∈ fp, FpOk X pins H3 b)
    (hce : ce.frame = X.env.frame) (hC : s3.heap.objs.size ≤ ce.locals) {xe : Value → Shared → Prop} (hxe : xe = notedBy (model X.prog X.w) X.A ce (fun e s'' => compE X e ce.locals s'')) :
    L2N.Takes ((X.blk s3 H3 scope ce fp).tr [] xe) (fun c d _ H => W c d σ H) := by
  rintro u s' ⟨a, B, sI, pinsY, σ', H', cls, d, rfl, IY, nb, up, sky, na, os, ag, w⟩
  show xe (.ref a) s'
  rw [hxe]
  have en : noteFrame (.ref a) ce = noteFrame (.ref a) X.env := by
    unfold noteFrame PySem.frameOf
    rw [hce]
  show wpAny (model X.prog X.w) X.A (noteFrame (.ref a) ce) (fun _ s'' => compE X (.ref a) ce.locals s'') _ s'
  rw [en]
  have IX : Inv X pins σ H' sI := I3.call' (ch := fp) IY.os IY.base IY.hok IY.bare fun b hb => ⟨(f3 b hb).2.2.2.1, (f3 b hb).2.1, (f3 b hb).2.2.2.2.1, (f3 b hb).2.2.2.2.2⟩
  have hfr : X.A.frames = some (X.env :: X.outer) := by rw [I3.ok.frames, hs]
  obtain ⟨m, hn, _⟩ := IY.loc
  have hn : sI.heap.Ns ce.locals m := hn
  obtain ⟨oC, es, ep, hoC, hdC, rC⟩ := hn
  obtain ⟨mL, hnL, _⟩ := I3.loc
  have ltL : X.env.locals < s3.heap.objs.size := hnL.lt
  have nfr : ∀ b ∈ frs X.stack, b < s3.heap.objs.size := fun b hb => by
    rcases List.mem_cons.mp (I3.stkSub b hb) with z | z
    · rw [z]
      exact ltL
    · obtain ⟨_, o₀, e₀, _⟩ := I3.ok.funs.mem z
      have h1 := Heap.lt_size e₀
      have h2 := I3.ok.above
      exact Nat.lt_trans (Nat.lt_of_lt_of_le h1 h2) ltL
  have nC : ce.locals ∉ frs X.stack := fun h => absurd (nfr _ h) (Nat.not_lt.mpr hC)
  have hBC : B.get? ce.locals = some oC := nb _ _ hoC nC
  have nCL : ce.locals ≠ X.env.locals := fun z => absurd ltL (by rw [← z]; exact Nat.not_lt.mpr hC)
  have core : ∀ h1, HandSPX.HeldZ B (X.env :: X.outer) a (L2N.Zn cls d) X.env.locals h1 → s'.heap.UpToSlots h1 → compE X (.ref a) ce.locals { s' with heap := h1 } := by
    rintro h1 ⟨hB1, hen, hl, ht⟩ up1
    refine ⟨m, ⟨oC, es, ep, hB1 _ _ hBC, hdC, rC⟩, fun h2 sb cenv' hcl hcf => ?_⟩
    have hk2 : ∀ b, b ≠ ce.locals → h2.get? b = h1.get? b := sb.2
    obtain ⟨B', b1, b2⟩ := restrict B fun b => decide (b ≠ ce.locals)
    have bn : ∀ b, B.get? b = none → B'.get? b = none := fun b e => by
      by_cases z : b = ce.locals
      · exact b2 b (decide_eq_false fun q => q z)
      · rw [b1 b (decide_eq_true z)]
        exact e
    have bk : ∀ b o, B'.get? b = some o → b ≠ ce.locals ∧ B.get? b = some o := fun b o e => by
      by_cases z : b = ce.locals
      · rw [b2 b (decide_eq_false fun q => q z)] at e
        cases e
      · rw [b1 b (decide_eq_true z)] at e
        exact ⟨z, e⟩
    have kp2 : B'.StaysIn h2 := fun b o e => (hk2 b (bk b o e).1).trans (hB1 b o (bk b o e).2)
    have hl2 : h2.FunFrames B' (X.env :: X.outer) := funFrames_less hBC bn hk2 hl
    have ht2 : HandSPX.TracedZ h2 B' a (L2N.Zn cls d) (rawInt X.env.locals) := traced_less hBC bn hk2 hen ht
    obtain ⟨G, g1, g2⟩ := restrict sI.heap fun b => decide (b ≠ ce.locals)
    have gk : ∀ b o, G.get? b = some o → b ≠ ce.locals ∧ sI.heap.get? b = some o := fun b o e => by
      by_cases z : b = ce.locals
      · rw [g2 b (decide_eq_false fun q => q z)] at e
        cases e
      · rw [g1 b (decide_eq_true z)] at e
        exact ⟨z, e⟩
    have nH : H' ce.locals = none := IY.free
    obtain ⟨f0, f1, f2, f3', f4, f5⟩ := I3.fpOk hC nH
    have IG : Inv X pins σ H' { sI with heap := G } := IX.turned (t' := sI.toks) (it := ce.locals) (fun b o hb e => by rw [g1 b (decide_eq_true hb)]; exact e) f0 f1 f3' f4 f5
    have upG : G.UpToSlots h2 := fun b o e hnf => by
      obtain ⟨z, e1⟩ := gk b o e
      obtain ⟨sl1, q1⟩ := up b o e1 hnf
      obtain ⟨sl2, q2⟩ := up1 b _ q1 hnf
      exact ⟨sl2, (hk2 b z).trans q2⟩
    obtain ⟨oe, vs, T, oT, ts, he, hz, hd, hv1, _⟩ := id ht2
    unfold PySem.passOn
    refine wpAny_bind (wpAny_field he hd hv1 ?_)
    rw [if_neg (show ¬ ((Value.ref T == Value.none) = true) from by simp)]
    have fin : wpAny (model X.prog X.w) X.A (setFlight (.ref a) cenv'.frame) (fun _ s4 => wpAny (model X.prog X.w) X.A (throw (.ref a) : Sem Value) (fun _ _ => False) X.xe s4) X.xe { s' with heap := h2 } := by
      rw [hcf, hf]
      refine HandSPX.setFlight_onZ (L := X.env.locals) ⟨kp2, bn _ hen, hl2, ht2⟩ fun h4 hh4 up4 => wpAny_throw (tk _ _ ?_)
      exact ⟨a, B', { sI with heap := G }, pins, σ, H', cls, d, rfl, IG, fun b o e hb => by
        obtain ⟨z, e1⟩ := gk b o e
        rw [b1 b (decide_eq_true z)]
        exact nb b o e1 hb, upG.trans up4, .inr (.inr (by rw [hs]; exact hh4)), na, os, ag, w⟩
    first
      | exact wpAny_bind (wpAny_pure (wpAny_bind fin))
      | exact wpAny_bind fin
  have sky : Sky B (X.env :: X.outer) a (L2N.Zn cls d) ce.locals s'.heap := by rw [← hs]; exact sky
  rcases sky with ⟨hB, hn', hl, oe, vs, he, hz, hd, h1⟩ | fl | hh
  · exact PXN.look_newZ L2N.Zn.steady hfr hl hf he hB hn' hd h1 hz core
  · exact PXN.looks_onZ L2N.Zn.steady hfr hf fl core
  · exact note_held nCL L2N.Zn.steady hfr hf hh core
/-- [elt for target in iter if ..], the element with the slots ahead of all -/
def tLcE (wi : TI) (g : TG) (tt : TT) (te : L2.St → TE) (vs : List Nat) : TE := fun σ H Q => wi σ H fun J H1 => ∀ D, H1 D = none → ∃ W : Nat → Nat → Hp → Prop, (∃ m, W 0 m (upd H1 D (.lst []))) ∧ ∀ i m H, W i m H →
  (J.stop i H ∧ Q (.ref D) H) ∨ (J.go i H ∧ ∃ Nx : Hp → Prop, (∀ H', Nx H' → ∃ m', m' < m ∧ W (i + 1) m' H') ∧ ∀ x H', J.yld i H x H' → g x (L2.wipe σ vs) H' fun σ2 H2 => L2.wipe σ2 vs = L2.wipe σ vs ∧ tt σ2 H2 fun b H3 =>
    if b = true then te σ σ2 H3 fun y H4 => ∃ acc, H4 D = some (.lst acc) ∧ acc.length < sizeLine ∧ Nx (upd H4 D (.lst (acc ++ [y]))) else Nx H3)
theorem lc_coreE {pins : List (Addr × Obj)} {s : Shared} {σ : L2.St} {H : Hp} {Q : VK} {elt tg iter : Expr} {ifs : List Expr} {scope : Scope} {own : List (Str × Nat)} {pos pos' : Pos} {wi : TI} {g : TG} {tt : TT} {te : L2.St → TE} {use : Option (Value → Sem Unit)} {Qf : Value → Shared → Prop}
    (hs0 : X.stack = X.env :: X.outer) (hf0 : X.env.frame = some X.env.locals) (tk : L2N.Takes X W) (hc : X.calm = true) (hN : X.N.Nodup) (I : Inv X pins σ H s) (hi : PI X tg iter wi) (ok : BlkOk X.N X.env.scope scope own)
    (hg : ∀ (s : Shared) (H : Hp) (C : Addr) (cl : List (Str × Addr)) (fp : List Addr), PG (X.blk s H scope (compEnvC scope cl C X.env) fp) tg g) (ht : ∀ (s : Shared) (H : Hp) (C : Addr) (cl : List (Str × Addr)) (fp : List Addr), PTs (X.blk s H scope (compEnvC scope cl C X.env) fp) ifs tt)
    (he : ∀ (σ : L2.St) (s : Shared) (H : Hp) (C : Addr) (cl : List (Str × Addr)) (fp : List Addr) (xe : Value → Shared → Prop), L2N.Takes ((X.blk s H scope (compEnvC scope cl C X.env) fp).tr [] xe) (fun c d _ H => W c d σ H) → PE ((X.blk s H scope (compEnvC scope cl C X.env) fp).tr [] xe) elt (te σ)) (hs : ∀ x, foldedSetIterable iter X.env x = pure x)
    (h : tLcE wi g tt te (own.map (·.2)) σ H Q)
    (hRR : ∀ D C s' m H', Inv X pins σ H' s' → Q (.ref D) H' → s'.heap.Ns C m → FpOk X pins H' C → compPost (model X.prog X.w) X.A X.xe use Qf (.ref D) C (.ok .next) s') :
    wpAny (model X.prog X.w) X.A (comprehension (.ListComp elt [⟨tg, iter, ifs, 0⟩] scope pos) scope X.env pos' (newList []) false (eval iter X.env) use) Qf X.xe s := by
  have hfree : ∀ y ∈ scope.names, y.2 = .free → ∃ c, X.env.cells.lookup y.1 = some c := fun y hy e => by
    rcases ok.free y hy e with k | k
    · exact I.ok.has _ (.inl k)
    · exact I.ok.has _ (.inr k)
  refine comprehension_freeE (use := use) rfl hs (closure_ok hfree) ok.kind (fun y hy e => by rw [ok.uniq y hy, e])
    (thn (hi.run pins s σ H _ I h) fun xv s1 hx => thn hx fun itv s2 h2 => ?_)
  obtain ⟨it, fp, tn, J, H2, e, I2, T, st2, f2, q⟩ := h2
  subst e
  refine wpAny_newObj_type (newEnv_comp ?_) (by show 0 ≤ sizeLine; decide)
  generalize hD : s2.heap.objs.size = D
  have hDn : H2 D = none := I2.hok.fresh (Nat.le_of_eq hD)
  obtain ⟨W, ⟨m0, w0⟩, turn⟩ := q D hDn
  -- the new list
  generalize hs3 : ({ s2 with heap := s2.heap.push { cls := .type "list", data := .seq ([] : List Value).toArray } } : Shared) = s3
  have I3 : Inv X pins σ (upd H2 D (.lst [])) s3 := by
    rw [← hs3]
    refine I2.laid (t' := s2.toks) (fun b o e => Heap.get?_push_of_some _ e) (Nat.le_of_eq hD) ⟨Nat.zero_le _, [], 0, .nil, ?_⟩
    rw [← hD]
    exact Heap.get?_push_size _ rfl
  have h3 : s3.heap = s2.heap.push { cls := .type "list", data := .seq ([] : List Value).toArray } := by rw [← hs3]
  have sz : ∀ b ∈ fp, b < s2.heap.objs.size := fun b hb => by
    obtain ⟨o, e, _⟩ := T.obj _ _ st2 b hb
    exact Heap.lt_size e
  have f3 : ∀ b ∈ fp, FpOk X pins (upd H2 D (.lst [])) b ∧ b < s3.heap.objs.size := fun b hb => by
    have hlt := sz b hb
    refine ⟨⟨?_, (f2 b hb).2⟩, by rw [h3, Heap.size_push]; exact Nat.lt_succ_of_lt hlt⟩
    rw [upd_ne (by rw [← hD]; exact Nat.ne_of_lt hlt)]
    exact (f2 b hb).1
  have st3 : tn 0 s3.heap := T.keep _ _ _ st2 fun b _ o e => by rw [h3]; exact Heap.get?_push_of_some _ e
  have I4 := block_start I3 ok hN f3
  have pg := hg s3 (upd H2 D (.lst [])) s3.heap.objs.size (cellsFrom (s3.heap.objs.size + 1) scope.names (cloFrom X.env.cells scope.names [])) fp
  have pt := ht s3 (upd H2 D (.lst [])) s3.heap.objs.size (cellsFrom (s3.heap.objs.size + 1) scope.names (cloFrom X.env.cells scope.names [])) fp
  have f3a : ∀ b ∈ fp, FpOk X pins (upd H2 D (.lst [])) b := fun b hb => (f3 b hb).1
  have tkY : ∀ xe, xe = notedBy (model X.prog X.w) X.A (compEnvC scope (cellsFrom (s3.heap.objs.size + 1) scope.names (cloFrom X.env.cells scope.names [])) s3.heap.objs.size X.env) (fun e s'' => compE X e s3.heap.objs.size s'') → _ := fun xe hxe => takes_blk (scope := scope) hs0 hf0 tk I3 f3a (ce := compEnvC scope (cellsFrom (s3.heap.objs.size + 1) scope.names (cloFrom X.env.cells scope.names [])) s3.heap.objs.size X.env) rfl (Nat.le_refl _) hxe
  have pe := he σ s3 (upd H2 D (.lst [])) s3.heap.objs.size (cellsFrom (s3.heap.objs.size + 1) scope.names (cloFrom X.env.cells scope.names [])) fp _ (tkY _ rfl)
  show codeAny _ _ (.compStart (.ListComp elt [⟨tg, iter, ifs, 0⟩] scope pos) 0 (.ref it) (.ref D) (compEnvC scope (cellsFrom (s3.heap.objs.size + 1) scope.names (cloFrom X.env.cells scope.names [])) s3.heap.objs.size X.env)) (compPostE (model X.prog X.w) X.A X.xe use Qf (.ref D) s3.heap.objs.size X.env.frame) { s3 with heap := pushCells (s3.heap.push { cls := .type "dict", data := .dict #[] }) scope.names }
  have nfp : ∀ b ∈ fp, (upd H2 D (.lst [])) b = none := fun b hb => (f3 b hb).1.1
  generalize hce : compEnvC scope (cellsFrom (s3.heap.objs.size + 1) scope.names (cloFrom X.env.cells scope.names [])) s3.heap.objs.size X.env = ce at I4 pg pt pe ⊢
  have cL : ce.locals = s3.heap.objs.size := by subst hce; rfl
  generalize hH3 : upd H2 D (.lst []) = H3 at I3 I4 pg pt pe w0 nfp f3
  generalize hs4 : ({ s3 with heap := pushCells (s3.heap.push { cls := .type "dict", data := .dict #[] }) scope.names } : Shared) = s4 at I4 ⊢
  have st4 : tn 0 s4.heap := T.keep _ _ _ st3 fun b _ o e => by rw [← hs4]; exact pushCells_keeps _ _ _ _ (Heap.get?_push_of_some _ e)
  have stat : ∀ {σ' : L2.St} {H' : Hp} {s' : Shared}, Inv (X.blk s3 H3 scope ce fp) [] σ' H' s' → (∀ b ∈ fp, H' b = none) → ∀ b ∈ fp, FpOk (X.blk s3 H3 scope ce fp) [] H' b := fun {σ' H' s'} I' hn b hb =>
    ⟨hn b hb, (I'.ok.exf b hb).1, I'.ok.exfs b hb, .inl hb, fun x c e => (I'.ok.exf b hb).2 x c e, fun p hp => absurd (show p ∈ ([] : List (Addr × Obj)) ++ [] from hp) (by simp)⟩
  have loop : codeAny (model X.prog X.w) X.A (.compLoop (.ListComp elt [⟨tg, iter, ifs, 0⟩] scope pos) 0 (.ref it) (.ref D) ce) (compPostE (model X.prog X.w) X.A X.xe use Qf (.ref D) s3.heap.objs.size X.env.frame) s4 := by
    refine compLoop_any (fun n s' => ∃ i H', Inv (X.blk s3 H3 scope ce fp) [] (L2.wipe σ (own.map (·.2))) H' s' ∧ tn i s'.heap ∧ (∀ b ∈ fp, H' b = none) ∧ W i n H') ?_ m0 ⟨0, H3, I4, st4, nfp, w0⟩
    rintro n s5 ⟨i, H5, I5, st5, n5, w5⟩
    rcases turn i n H5 w5 with ⟨stop, qq⟩ | ⟨go, Nx, hNx, step⟩
    · have td := T.done (X.blk s3 H3 scope ce fp) rfl rfl rfl hc i [] s5 _ H5 (fun _ _ => False) I5 (stat I5 n5) st5 stop
      refine thnF td fun r s6 ⟨hr, I6⟩ => ?_
      subst hr
      -- back in the def's context
      have I7 : Inv X pins σ H5 s6 := I3.call' (ch := fp) I6.os I6.base I6.hok I6.bare fun b hb => ⟨(f3 b hb).1.2.2.2.1, (f3 b hb).1.2.1, (f3 b hb).1.2.2.2.2.1, (f3 b hb).1.2.2.2.2.2⟩
      have nC : H5 s3.heap.objs.size = none := by
        have z : H5 ce.locals = none := I6.free
        rw [cL] at z
        exact z
      obtain ⟨m, hn, _⟩ := I6.loc
      have hn : s6.heap.Ns ce.locals m := hn
      rw [cL] at hn
      exact hRR D s3.heap.objs.size s6 m H5 I7 qq hn (I3.fpOk (Nat.le_refl _) nC)
    · have ti := T.item (X.blk s3 H3 scope ce fp) rfl rfl rfl hc i [] s5 _ H5 (fun _ _ => False) I5 (stat I5 n5) st5 go
      refine thnF ti fun r s6 ⟨u, hr, h6⟩ => ?_
      subst hr
      refine thnF h6 fun _ s7 ⟨x, H7, I7, r7, y7, st7, n7⟩ => ?_
      have I7' := I7.pinned (stat I7 n7) (T.obj _ _ st7)
      refine thnF (pg.run _ s7 _ H7 x u _ I7' r7 (step x H7 y7)) fun _ s8 ⟨σ8, H8, I8, hw8, q8⟩ => ?_
      refine thnF (pt.run _ s8 σ8 H8 _ I8 q8) fun b s9 ⟨H9, I9, q9⟩ => ?_
      -- the turn's end
      have fin : ∀ {s' : Shared} {H' : Hp}, Inv (X.blk s3 H3 scope ce fp) ([] ++ pinsAt fp s7.heap) σ8 H' s' → Nx H' → ∃ m, m < n ∧ ∃ i H', Inv (X.blk s3 H3 scope ce fp) [] (L2.wipe σ (own.map (·.2))) H' s' ∧ tn i s'.heap ∧ (∀ b ∈ fp, H' b = none) ∧ W i m H' := fun {s' H'} I' nx => by
        obtain ⟨m', hm, w'⟩ := hNx H' nx
        have pin' : ∀ b ∈ fp, ∀ o, s7.heap.get? b = some o → s'.heap.get? b = some o ∧ H' b = none := fun b hb o e =>
          let z := I'.pin (b, o) (List.mem_append_right _ (List.mem_append_right _ (mem_pinsAt hb e)))
          ⟨z.1, z.2.1⟩
        have hl : (L2.wipe σ (own.map (·.2))).length = σ8.length := by rw [← hw8, L2.wipe_length]
        refine ⟨m', hm, i + 1, H', (I'.unpinned (pins := [])).weak hl (fun j v e => ?_), T.keep _ _ _ st7 fun b hb o e => (pin' b hb o e).1, fun b hb => ?_, w'⟩
        · rw [← hw8] at e
          exact (L2.wipe_some e).1
        · obtain ⟨o, e, _⟩ := T.obj _ _ st7 b hb
          exact (pin' b hb o e).2
      cases b with
      | false =>
        simp only [Bool.false_eq_true, if_false] at q9 ⊢
        exact fin I9 q9
      | true =>
        simp only [if_true] at q9 ⊢
        refine thn (pe.run _ s9 σ8 H9 _ ⟨I9.ok.toTry _ _, I9.os, I9.bare, I9.base, I9.loc, I9.cell, I9.free, I9.freeC, I9.pin, I9.hok, I9.len⟩ q9) fun z s10 ⟨yv, H10, J10, r10, acc, hD10, hz10, nx⟩ => ?_
        have I10 : Inv (X.blk s3 H3 scope ce fp) ([] ++ pinsAt fp s7.heap) σ8 H10 s10 := ⟨J10.ok.ofTry, J10.os, J10.bare, J10.base, J10.loc, J10.cell, J10.free, J10.freeC, J10.pin, J10.hok, J10.len⟩
        exact app_ok (X := X.blk s3 H3 scope ce fp) I10 hD10 hz10 r10 fun s11 I11 => fin I11 nx
  exact codeAny_compStart_list loop (T.self X.A 0 _ _ _ st4 loop)
theorem pe_lcE {elt tg iter : Expr} {ifs : List Expr} {scope : Scope} {own : List (Str × Nat)} {pos : Pos} {wi : TI} {g : TG} {tt : TT} {te : L2.St → TE} (hs0 : X.stack = X.env :: X.outer) (hf0 : X.env.frame = some X.env.locals) (tk : L2N.Takes X W) (hc : X.calm = true) (hN : X.N.Nodup) (hi : PI X tg iter wi) (ok : BlkOk X.N X.env.scope scope own)
    (hg : ∀ (s : Shared) (H : Hp) (C : Addr) (cl : List (Str × Addr)) (fp : List Addr), PG (X.blk s H scope (compEnvC scope cl C X.env) fp) tg g) (ht : ∀ (s : Shared) (H : Hp) (C : Addr) (cl : List (Str × Addr)) (fp : List Addr), PTs (X.blk s H scope (compEnvC scope cl C X.env) fp) ifs tt)
    (he : ∀ (σ : L2.St) (s : Shared) (H : Hp) (C : Addr) (cl : List (Str × Addr)) (fp : List Addr) (xe : Value → Shared → Prop), L2N.Takes ((X.blk s H scope (compEnvC scope cl C X.env) fp).tr [] xe) (fun c d _ H => W c d σ H) → PE ((X.blk s H scope (compEnvC scope cl C X.env) fp).tr [] xe) elt (te σ)) (hs : ∀ x, foldedSetIterable iter X.env x = pure x := by intro _; rfl) :
    PE X (.ListComp elt [⟨tg, iter, ifs, 0⟩] scope pos) (tLcE wi g tt te (own.map (·.2))) := by
  refine ⟨fun pins s σ H Q I h => ?_⟩
  rw [eval_ListComp]
  refine lc_coreE hs0 hf0 tk hc hN I hi ok hg ht he hs h fun D C s' m H' I' q hn f => ⟨m, hn, fun h'' sb => ?_⟩
  obtain ⟨f0, f1, f2, f3, f4, f5⟩ := f
  exact ⟨.ref D, H', I'.turned (t' := s'.toks) (fun b o hb e => (sb.2 b hb).trans e) f0 f1 f3 f4 f5, rfl, q⟩
end
/-! #### its run -/
open Classical in
noncomputable def lcLE (vs : List Nat) (pk : List (Nat × List D)) (g : SV → Sl → Option Sl) (c : M Bool) (elt : M SV) : List D → List D → Sl → Option (Out (List D))
  | [], acc, ρ => if pkOk pk (wipeS ρ vs) then some (.ok acc ρ) else none
  | d :: ds, acc, ρ => if pkOk pk (wipeS ρ vs) ∧ acc.length < 1000000 then
      match g (.sh d) (wipeS ρ vs) with
      | none => none
      | some ρ1 => match c ρ1 with
        | some (.ok true ρ2) => match elt ρ2 with
          | some (.ok sv ρ3) => lcLE vs pk g c elt ds (acc ++ [sv.d]) ρ3
          | some (.ex cx ρ3) => some (.ex cx ρ3)
          | none => none
        | some (.ok false ρ2) => lcLE vs pk g c elt ds acc ρ2
        | _ => none
    else none
def lcOut (ρ : Sl) (vs : List Nat) : Out (List D) → Out SV
  | .ok acc ρ' => .ok (.fr acc) (restS ρ ρ' vs)
  | .ex c ρ' => .ex c (restS ρ ρ' vs)
open Classical in
noncomputable def vLcE (vs : List Nat) (it : M Itb) (g : SV → Sl → Option Sl) (c : M Bool) (elt : M SV) : M SV := bnd it fun ib ρ =>
  if noFr ρ vs ∧ (∀ q ∈ ib.pk, q.1 ∉ vs) ∧ pkOk ib.pk ρ then (lcLE vs ib.pk g c elt ib.ds [] ρ).map (lcOut ρ vs) else none
theorem wipeS_key {ρ : Sl} {j : Nat} : ∀ (us : List Nat), j ∉ us → (wipeS ρ us)[j]? = ρ[j]?
  | [], _ => rfl
  | u :: us, hm => by
    unfold wipeS
    rw [List.getElem?_set_ne fun z => hm (by rw [← z]; exact List.mem_cons_self)]
    exact wipeS_key us fun z => hm (List.mem_cons_of_mem _ z)
theorem own_rest {σ : L2.St} {ρ1 ρ2 : Sl} {vs : List Nat} (nf : noFr ρ1 vs) {j : Nat} {a : Addr} : Owns σ (restS ρ1 ρ2 vs) j a → Owns (L2.wipe σ vs) (wipeS ρ2 vs) j a := fun ⟨⟨l, g1⟩, g2⟩ => by
  rcases restS_some g1 with ⟨h1, h2⟩ | ⟨h1, h2⟩
  · refine ⟨⟨l, ?_⟩, by rw [wipe_out h2]; exact g2⟩
    rw [wipeS_key vs h2]
    exact h1
  · exact (nf j h2 l h1).elim
theorem Rel.restored {K : PySem.W.Frag} {F B1 H1 B H : Hp} {σ : L2.St} {ρ1 ρ2 : Sl} {vs : List Nat} {Da : Addr} {accV : List V} (R1 : Rel K F B1 H1 σ ρ1) (sm : Same B1 B) (nf : noFr ρ1 vs) (hFD : F Da = none) (R2 : Rel K (upd F Da (.lst accV)) B H (L2.wipe σ vs) (wipeS ρ2 vs)) :
    Rel K F B H σ (restS ρ1 ρ2 vs) := by
  refine ⟨R2.exB, fun a o e => ?_, fun a o e => ?_, ?_, fun j sv h => ?_, fun j j' a o1 o2 => R2.sep j j' a (own_rest nf o1) (own_rest nf o2), R2.tb.both R2.tb.nB R1.tb.nF⟩
  · refine R2.exF a o ?_
    rw [upd_ne fun z => by rw [z, hFD] at e; cases e]
    exact e
  · refine R2.dis a o ?_
    rw [upd_ne fun z => by rw [z, hFD] at e; cases e]
    exact e
  · rw [restS_length]
    have h1 := R2.len
    rw [wipeS_length, wipe_length] at h1
    exact h1
  · rcases restS_some h with ⟨h1, h2⟩ | ⟨h1, h2⟩
    · have key : (wipeS ρ2 vs)[j]? = some (some sv) := by
        rw [wipeS_key vs h2]
        exact h1
      have s := R2.slot j sv key
      rw [wipe_out h2] at s
      generalize hgj : σ[j]? = wj at s
      cases s with
      | sh r => exact .sh r
      | @fr a o xs ds hF hB hH hO r =>
        refine .fr ?_ hB hH hO r
        by_cases z : a = Da
        · rw [z]
          exact hFD
        · rw [upd_ne z] at hF
          exact hF
    · have s := R1.slot j sv h1
      generalize hgj : σ[j]? = wj at s
      cases s with
      | sh r => exact .sh (r.mono sm _ _)
      | @fr a o xs ds hF hB hH hO r => exact (nf j h2 _ h1).elim
section
variable {cv : Nat → Value} {X : Cx} {W : WX} {elt iter tg : Expr} {tt : TT} {f : M SV} {c : M Bool} {pos : Pos}
theorem adm_lcE {wi : TI} {tgt : TG} {it : M Itb} {g : SV → Sl → Option Sl} {w : List Nat} {vs : List Nat} {te : L2.St → TE} (hi : AdmI cv W X.K wi it) (hg : AdmG X.K tgt g w) (hw : ∀ j, j ∈ w → j ∈ vs) (hc : Adm cv (fun _ _ _ _ => False) X.K tt c (fun _ _ _ _ _ b b' => b = b'))
    (he : ∀ σ, Adm cv (fun c d _ H => W c d σ H) X.K (te σ) f (RV X.K)) : Adm cv W X.K (tLcE wi tgt tt te vs) (vLcE vs it g c f) (RV X.K) := by
  intro F B H σ ρ Q R q
  refine hi F B H σ ρ _ R (wpm_mono (wpm_bnd q) (fun ib ρ1 q J B1 H1 R1 sm1 ok => ?_) fun _ _ q => q)
  unfold wpm at q
  by_cases hcd : noFr ρ1 vs ∧ (∀ q ∈ ib.pk, q.1 ∉ vs) ∧ pkOk ib.pk ρ1
  · simp only [if_pos hcd] at q
    obtain ⟨nf, npk, pk1⟩ := hcd
    cases eL : lcLE vs ib.pk g c f ib.ds [] ρ1 with
    | none =>
      simp only [eL, Option.map_none] at q
    | some res =>
      simp only [eL, Option.map_some] at q
      intro Da hD
      have hFD : F Da = none := R1.exF.free hD
      refine ⟨fun i k H2 => k = ib.ds.length - i ∧ i ≤ ib.ds.length ∧ ∃ ρ2 B2 accV acc, Rel X.K (upd F Da (.lst accV)) B2 H2 (L2.wipe σ vs) (wipeS ρ2 vs) ∧ Same B1 B2 ∧ RepL X.K B2 accV acc ∧ lcLE vs ib.pk g c f (ib.ds.drop i) acc ρ2 = some res,
        ⟨ib.ds.length, by simp, Nat.zero_le _, ρ1, B1, [], [], (R1.wipe vs).addF hD, Same.refl _, .nil, by simpa using eL⟩, ?_⟩
      rintro i k H2 ⟨rfl, hle, ρ2, B2, accV, acc, R2, sm2, rl, e2⟩
      by_cases hlt : i < ib.ds.length
      · rw [List.drop_eq_getElem_cons hlt] at e2
        unfold lcLE at e2
        by_cases hpk : pkOk ib.pk (wipeS ρ2 vs) ∧ acc.length < 1000000
        · rw [if_pos hpk] at e2
          have ok2 := ok _ B2 H2 _ _ R2 sm2 (fun q hq => ⟨wipe_out (npk q hq), hpk.1 q hq⟩) i
          obtain ⟨go, yl⟩ := ok2.1 _ (List.getElem?_eq_getElem hlt)
          refine .inr ⟨go, fun H' => ∃ ρ' B' accV' acc', Rel X.K (upd F Da (.lst accV')) B' H' (L2.wipe σ vs) (wipeS ρ' vs) ∧ Same B1 B' ∧ RepL X.K B' accV' acc' ∧ lcLE vs ib.pk g c f (ib.ds.drop (i + 1)) acc' ρ' = some res,
            fun H' ⟨ρ', B', accV', acc', h1, h2, h3, h4⟩ => ⟨_, by omega, rfl, hlt, ρ', B', accV', acc', h1, h2, h3, h4⟩, fun x H' hy => ?_⟩
          obtain ⟨B3, R3, sm3, rep⟩ := yl x H' hy
          cases e3 : g (.sh ib.ds[i]) (wipeS ρ2 vs) with
          | none =>
            simp only [e3] at e2
            cases e2
          | some ρ3 =>
            simp only [e3] at e2
            refine hg _ B3 H' _ _ x _ ρ3 _ R3 (.sh rep) e3 fun σ3 R4 ag3 l3 => ?_
            have wp : L2.wipe σ3 vs = L2.wipe σ vs := by
              have h1 := wipe_eq (vs := vs) l3 (ag3.mono hw)
              have h2 : L2.wipe (L2.wipe σ vs) vs = L2.wipe σ vs := wipe_eq (wipe_length σ vs) fun j hj => wipe_out hj
              exact h1.trans h2
            refine ⟨wp, ?_⟩
            have back : ∀ {ρ5 : Sl} {B5 H5 : Hp} {av : List V}, Rel X.K (upd F Da (.lst av)) B5 H5 σ3 ρ5 → Rel X.K (upd F Da (.lst av)) B5 H5 (L2.wipe σ vs) (wipeS ρ5 vs) := fun {ρ5 B5 H5 av} R5 => by
              have h := R5.wipe vs
              rw [wp] at h
              exact h
            refine hc _ B3 H' σ3 ρ3 _ R4 ?_
            unfold wpm
            cases e4 : c ρ3 with
            | none =>
              simp only [e4] at e2
              cases e2
            | some o =>
              cases o with
              | ex cx ρ4 =>
                simp only [e4] at e2
                cases e2
              | ok b ρ4 =>
                intro b' B4 H4 R5 sm4 eb
                subst eb
                cases b' with
                | false =>
                  simp only [e4] at e2
                  exact ⟨ρ4, B4, accV, acc, back R5, (sm2.trans sm3).trans sm4, (rl.mono sm3 _ _).mono sm4 _ _, e2⟩
                | true =>
                  simp only [e4] at e2
                  show te σ σ3 H4 _
                  refine he σ _ B4 H4 σ3 ρ4 _ R5 ?_
                  unfold wpm
                  cases e5 : f ρ4 with
                  | none =>
                    simp only [e5] at e2
                    cases e2
                  | some o =>
                    cases o with
                    | ex cx ρ5 =>
                      simp only [e5] at e2
                      cases e2
                      intro B5 H5 R6 sm5
                      have sm7 := (sm2.trans sm3).trans (sm4.trans sm5)
                      exact q B5 H5 (R1.restored sm7 nf hFD (back R6)) (sm1.trans sm7)
                    | ok sv ρ5 =>
                      intro y B5 H5 R6 sm5 rv
                      simp only [e5] at e2
                      obtain ⟨B6, R7, sm6, ry⟩ := rv.freeze R6
                      have hD5 : H5 Da = some (.lst accV) := R7.exF _ _ upd_same
                      have sm7 := (sm3.trans sm4).trans (sm5.trans sm6)
                      refine ⟨accV, hD5, ?_, ρ5, B6, accV ++ [y], acc ++ [sv.d], (back R7).grow, sm2.trans sm7, (rl.mono sm7 _ _).append (.cons ry .nil), e2⟩
                      rw [rl.length]
                      exact mill_lt hpk.2
        · rw [if_neg hpk] at e2
          cases e2
      · have ei : i = ib.ds.length := by omega
        rw [ei, List.drop_length] at e2
        unfold lcLE at e2
        by_cases hpk : pkOk ib.pk (wipeS ρ2 vs)
        · rw [if_pos hpk] at e2
          cases e2
          have ok2 := ok _ B2 H2 _ _ R2 sm2 (fun q hq => ⟨wipe_out (npk q hq), hpk q hq⟩) i
          refine .inl ⟨ok2.2 (by omega), ?_⟩
          have hBD : B2 Da = none := R2.dis Da _ upd_same
          refine q (.ref Da) B2 H2 (R1.restored sm2 nf hFD R2) (sm1.trans sm2) (.fr hFD hBD (R2.exF _ _ upd_same) rfl rl fun j hj => ?_)
          obtain ⟨_, xs, ds, _, hF, _⟩ := (own_rest nf hj).at R2
          rw [upd_same] at hF
          cases hF
        · rw [if_neg hpk] at e2
          cases e2
  · simp only [if_neg hcd] at q
theorem snd_lcE2 {pos : Pos} {ifs : List Expr} {scope : Scope} {own : List (Str × Nat)} {wi : TI} {tgt : TG} {it : M Itb} {g : SV → Sl → Option Sl} {w : List Nat} {c : M Bool} {f : M SV} {te : L2.St → Shared → Hp → Addr → List (Str × Addr) → List Addr → (Value → Shared → Prop) → TE} {tt : Shared → Hp → Addr → List (Str × Addr) → List Addr → TT} (hs0 : X.stack = X.env :: X.outer) (hf0 : X.env.frame = some X.env.locals) (tk : L2N.Takes X W) (hca : X.calm = true) (hN : X.N.Nodup) (hi : SndI cv X W tg iter wi it) (ok : BlkOk X.N X.env.scope scope own)
    (hg : ∀ (s : Shared) (H : Hp) (C : Addr) (cl : List (Str × Addr)) (fp : List Addr), SndG (X.blk s H scope (compEnvC scope cl C X.env) fp) tg tgt g w)
    (ht : ∀ (s : Shared) (H : Hp) (C : Addr) (cl : List (Str × Addr)) (fp : List Addr), PTs (X.blk s H scope (compEnvC scope cl C X.env) fp) ifs (tt s H C cl fp) ∧ Adm cv W0 X.K (tt s H C cl fp) c (fun _ _ _ _ _ b b' => b = b'))
    (he : ∀ (σ : L2.St) (s : Shared) (H : Hp) (C : Addr) (cl : List (Str × Addr)) (fp : List Addr) (xe : Value → Shared → Prop), L2N.Takes ((X.blk s H scope (compEnvC scope cl C X.env) fp).tr [] xe) (fun c d _ H => W c d σ H) → SndE cv ((X.blk s H scope (compEnvC scope cl C X.env) fp).tr [] xe) (fun c d _ H => W c d σ H) elt (te σ s H C cl fp xe) f)
    (s0 : Shared) (hw : ∀ j, j ∈ w → j ∈ own.map (·.2)) (hte : ∀ (σ : L2.St) (s : Shared) (H : Hp) (C : Addr) (cl : List (Str × Addr)) (fp : List Addr) (xe : Value → Shared → Prop), te σ s H C cl fp xe = te σ s0 X.H_0 0 [] [] (fun _ _ => True)) (htt : ∀ (s : Shared) (H : Hp) (C : Addr) (cl : List (Str × Addr)) (fp : List Addr), tt s H C cl fp = tt s0 X.H_0 0 [] []) (hs : ∀ x, foldedSetIterable iter X.env x = pure x := by intro _; rfl) :
    SndE cv X W (.ListComp elt [⟨tg, iter, ifs, 0⟩] scope pos) (tLcE wi tgt (tt s0 X.H_0 0 [] []) (fun σ => te σ s0 X.H_0 0 [] [] (fun _ _ => True)) (own.map (·.2))) (vLcE (own.map (·.2)) it g c f) :=
  ⟨pe_lcE hs0 hf0 tk hca hN hi.pi ok (fun s H C cl fp => (hg s H C cl fp).pg) (fun s H C cl fp => (htt s H C cl fp ▸ ht s H C cl fp).1) (fun σ s H C cl fp xe tk' => (hte σ s H C cl fp xe ▸ he σ s H C cl fp xe tk').pe) hs,
    adm_lcE hi.ad (hg s0 X.H_0 0 [] []).ad hw (ht s0 X.H_0 0 [] []).2 fun σ => (he σ s0 X.H_0 0 [] [] (fun _ _ => True) (fun _ _ _ => trivial)).ad⟩
end
end Sim

namespace Sim
open PySem PySem.Spec PyProof.Rows L2
/-! ### one sign so many times -/
def repS (s : Str) (n : Nat) : Str := ⟨(List.replicate n s.cps).foldl (· ++ ·) #[]⟩
def rRepS : R2 := fun x y H Q => ∃ (s : Str) (k : Int), x = .str s ∧ y = .int k ∧ s.length = 1 ∧ 2 ≤ k ∧ k ≤ 1000 ∧ Q (.str (repS s k.toNat)) H
section
variable {cv : Nat → Value} {X : Cx} {W : WX} {K : PySem.W.Frag} {a b : Expr} {ta tb : TE} {fa fb : M Op} {pos : Pos}
theorem repS_size {s : Str} (h : s.length = 1) : ∀ n : Nat, (repS s n).length = n := by
  have key : ∀ (n : Nat) (acc : Array Nat), ((List.replicate n s.cps).foldl (· ++ ·) acc).size = acc.size + n := fun n => by
    induction n with
    | zero => exact fun _ => rfl
    | succ n ih =>
      intro acc
      rw [List.replicate_succ, List.foldl_cons, ih, Array.size_append]
      have h : s.cps.size = 1 := h
      omega
  intro n
  show ((List.replicate n s.cps).foldl (· ++ ·) #[]).size = n
  rw [key]
  show 0 + n = n
  omega
theorem op_repS : OpR X (binaryOp .Mult) rRepS := by
  intro pins s σ H x y v u Q I rx ry h
  obtain ⟨z, k, rfl, rfl, hl, h1, h2, q⟩ := h
  obtain ⟨t, rfl⟩ := rx
  obtain ⟨t2, rfl⟩ := ry
  have d1 : decide (k < -(2 ^ 63 : Int)) = false := decide_eq_false (by omega)
  have d2 : decide (k ≥ 2 ^ 63) = false := decide_eq_false (by omega)
  have n1 : (k == 1) = false := by
    have : ¬ k = 1 := by omega
    simpa using this
  have n2 : (z.length == 0) = false := by rw [hl]; rfl
  refine PySem.P.mul_str (by rw [d1, d2]; rfl) (fun _ _ => ?_) (fun _ _ => ?_) ?_
  · rw [hl]
    have : (1 : Int) ≤ (2 ^ 63 - 1) / k := Int.le_ediv_of_mul_le (by omega) (by omega)
    omega
  · rw [hl]
    unfold Builtin.Str.tooLong
    have h3 : k.toNat ≤ 1000 := by omega
    have z : (1000 : Nat) ≤ sizeLine := by decide
    exact decide_eq_false (by omega)
  · rw [if_neg (by omega), n1, n2, if_neg (by decide)]
    have hs := repS_size hl k.toNat
    refine ⟨?_, .str (repS z k.toNat), H, I.tok _, ⟨_, rfl⟩, q⟩
    show (repS z k.toNat).length ≤ _
    rw [hs]
    have : k.toNat ≤ 1000 := by omega
    exact Nat.le_trans this (by decide)
def gRepS : D → D → Option SV
  | .str s, .int k => if s.length = 1 ∧ 2 ≤ k ∧ k ≤ 1000 then some (.sh (.str (repS s k.toNat))) else none
  | _, _ => none
theorem ok_repS : Ok2 K rRepS gRepS := by
  intro F B H σ ρ x y dx dy sv Q R hx hy hg q
  unfold gRepS at hg
  split at hg
  · rename_i s k
    split at hg
    · rename_i hc
      cases hg
      exact ⟨s, k, hx.str, hy.int, hc.1, hc.2.1, hc.2.2, q _ B _ R (Same.refl _) (.sh (.str _))⟩
    · cases hg
  · cases hg
theorem snd_repS (ha : SndO cv X W a ta fa) (hb : SndO cv X W b tb fb) : SndE cv X W (.BinOp a .Mult b pos) (tOp rRepS ta tb) (vOp2 gRepS fa fb) := snd_bin op_repS ok_repS ha hb
end
end Sim

namespace Sim
open PySem PySem.Spec PyProof.Rows L2
/-! ### where an error is handled: a pair's exchange -/
section
variable {prog : Program} {w : World} {A : Around} {E : Value → Shared → Prop} {s : Shared}
end
section
variable {X : Cx} {pos : Pos}
end
section
variable {cv : Nat → Value} {X : Cx} {W : WX} {a b : Expr} {pos : Pos}
end

/-! ### where an error is handled: a list comprehension -/
section
variable {X : Cx}
end
section
variable {cv : Nat → Value} {X : Cx} {W : WX} {elt iter tg a : Expr} {ts : TA} {fs : M (List Op)} {p pos : Pos}
end
end Sim

namespace Sim
open PySem PySem.Spec PyProof.Rows L2
/-! ### where an error is handled: any, all of a list of truths -/
section
variable {prog : Program} {w : World} {A : Around} {E : Value → Shared → Prop} {s : Shared}
end
section
variable {X : Cx}
end
end Sim


/-! the walk of law_k85_no_texts, printed by gen.py -/
namespace LawW
open PySem PySem.Spec PyProof.Rows L2 Sim
/-! ### runs -/
noncomputable def wc_common_1 : M Bool :=
    (tst (vOp2 (gCmp fun i j => decide (j < i)) (oPk 1) (oOf (vC (.int 0)))))
noncomputable def wb_common_1 : SM :=
    (sPar 0 1 (aCons (oOf (vVar 1)) (aCons (oOf (vOp2 gMod (oPk 0) (oPk 1))) aNil)))
noncomputable def b_common : SM :=
    (sSeq (sPar 0 1 (aCons (oOf (vBi gAbs (aCons (oPk 0) aNil))) (aCons (oOf (vBi gAbs (aCons (oPk 1) aNil))) aNil)))
    (sSeq (sWhile wc_common_1 wb_common_1)
    (sRet (vMv 0))))
noncomputable def phi_common : List D → Option CR := runB none 2 b_common
noncomputable def lc_read_number_1 : M Bool :=
    (tst (vOp2 (gInS true) (oPk 3) (oOf (vC (D.str "0123456789")))))
noncomputable def le_read_number_1 : M SV :=
    (vVar 3)
noncomputable def b_read_number : SM :=
    (sSeq (sAsg (vVar 0) (gN 2))
    (sSeq (sIf (tst (vOp2 gEq (oOf (vSl (oPk 0) pNo (pIn (vC (.int 1))))) (oOf (vC (.str "-")))))
    (sAsg (vSl (oPk 0) (pIn (vC (.int 1))) pNo) (gN 2))
    sNx)
    (sSeq (sIf (tor (tnot (tst (vChain (gCmp fun i j => decide (i ≤ j)) (gCmp fun i j => decide (i ≤ j)) (oOf (vC (.int 1))) (oOf (vBi gLen (aCons (oPk 2) aNil))) (oPk 1)))) (tst (vOp2 gNe (oOf (vLc [3] (iSg (oOf (vVar 2))) (gN 3) lc_read_number_1 le_read_number_1)) (oOf (vLst aNil)))))
    (sRaise 11)
    sNx)
    (sSeq (sIf (tand (tst (vOp2 gEq (oOf (vOp2 gIx (oPk 2) (oOf (vC (.int 0))))) (oOf (vC (.str "0"))))) (tst (vOp2 gNe (oPk 0) (oOf (vC (.str "0"))))))
    (sRaise 11)
    sNx)
    (sRet (vBi gIntS (aCons (oPk 0) aNil)))))))
noncomputable def phi_read_number : List D → Option CR := runB none 4 b_read_number
noncomputable def b_read_place : SM :=
    (sSeq (sIf (tnot (tst (vIs isStr (oPk 0))))
    (sRaise 11)
    sNx)
    (sSeq (sAsg (vMp ckS gPartn (oPk 0) (aCons (oOf (vC (.str "/"))) aNil)) (gT 3 (gsC (gN 1) (gsC (gN 2) (gsC (gN 3) gsN)))))
    (sSeq (sAsg (vTup (aCons (oOf (vCall 2 none phi_read_number (aCons (oPk 1) (aCons (oOf (vC (D.int 30))) aNil)))) (aCons (oOf (vCall 2 none phi_read_number (aCons (oPk 3) (aCons (oOf (vC (D.int 30))) aNil)))) aNil))) (gN 4))
    (sSeq (sIf (tor (tst (vOp2 (gCmp fun i j => decide (i < j)) (oOf (vOp2 gIx (oPk 4) (oOf (vC (.int 1))))) (oOf (vC (.int 0))))) (tor (tst (vOp2 gNe (oOf (vCall 2 none phi_common (aCons (oOf (vOp2 gIx (oPk 4) (oOf (vC (.int 0))))) (aCons (oOf (vOp2 gIx (oPk 4) (oOf (vC (.int 1))))) aNil)))) (oOf (vC (.int 1))))) (tand (tst (vOp2 gEq (oOf (vOp2 gIx (oPk 4) (oOf (vC (.int 1))))) (oOf (vC (.int 0))))) (tst (vOp2 gNe (oOf (vOp2 gIx (oPk 4) (oOf (vC (.int 0))))) (oOf (vC (.int 1))))))))
    (sRaise 11)
    sNx)
    (sRet (vMv 4))))))
noncomputable def phi_read_place : List D → Option CR := runB none 5 b_read_place
noncomputable def lc_read_walk_1 : M Bool :=
    (ret true)
noncomputable def le_read_walk_1 : M SV :=
    (vCall 1 none phi_read_place (aCons (oPk 2) aNil))
noncomputable def b_read_walk : SM :=
    (sSeq (sIf (tnot (tst (vIs isStr (oPk 0))))
    (sRaise 11)
    sNx)
    (sSeq (sAsg (vMp ckS gSplit (oPk 0) (aCons (oOf (vC (.str " "))) aNil)) (gN 1))
    (sSeq (sIf (tnot (tst (vChain (gCmp fun i j => decide (i ≤ j)) (gCmp fun i j => decide (i ≤ j)) (oOf (vC (.int 2))) (oOf (vBi gLen (aCons (oPk 1) aNil))) (oOf (vC (D.int 12))))))
    (sRaise 11)
    sNx)
    (sRet (vLcE [2] (iLs (oOf (vVar 1))) (gN 2) lc_read_walk_1 le_read_walk_1)))))
noncomputable def phi_read_walk : List D → Option CR := runB none 3 b_read_walk
noncomputable def b_law_cell_at : SM :=
    (sSeq (sIf (tst (vOp2 (gCmp fun i j => decide (i < j)) (oPk 1) (oOf (vBi gLen (aCons (oPk 0) aNil)))))
    (sRet (vOp2 gIx (oPk 0) (oPk 1)))
    sNx)
    (sRet (vC (.int 0))))
noncomputable def phi_law_cell_at : List D → Option CR := runB none 2 b_law_cell_at
noncomputable def b_law_number : SM :=
    (sSeq (sAsg (vCall 2 none phi_law_cell_at (aCons (oPk 0) (aCons (oPk 1) aNil))) (gN 2))
    (sSeq (sIf (tst (vOp2 (gCmp fun i j => decide (j ≤ i)) (oPk 2) (oOf (vOp2 gPow (oOf (vC (.int 10))) (oOf (vC (.int 18)))))))
    (sRet (vMv 2))
    sNx)
    (sSeq (sAsg (vOp2 gMod (oOf (vOp2 gMul (oOf (vOp2 gAdd (oPk 2) (oOf (vOp2 gMul (oOf (vC (.int 1442695040888963407))) (oOf (vOp2 gAdd (oOf (vOp2 gAdd (oOf (vOp2 gMul (oPk 1) (oPk 1))) (oPk 1))) (oOf (vC (.int 1))))))))) (oOf (vC (.int 6364136223846793005))))) (oOf (vOp2 gPow (oOf (vC (.int 10))) (oOf (vC (.int 37)))))) (gN 3))
    (sRet (vOp2 gMod (oOf (vOp2 gDiv (oOf (vOp2 gMul (oPk 3) (oPk 3))) (oOf (vOp2 gPow (oOf (vC (.int 10))) (oOf (vC (.int 17))))))) (oOf (vOp2 gPow (oOf (vC (.int 10))) (oOf (vC (.int 40))))))))))
noncomputable def phi_law_number : List D → Option CR := runB none 4 b_law_number
noncomputable def wc_law_common_1 : M Bool :=
    (tst (vOp2 (gCmp fun i j => decide (j < i)) (oPk 1) (oOf (vC (.int 0)))))
noncomputable def wb_law_common_1 : SM :=
    (sPar 0 1 (aCons (oOf (vVar 1)) (aCons (oOf (vOp2 gMod (oPk 0) (oPk 1))) aNil)))
noncomputable def b_law_common : SM :=
    (sSeq (sPar 0 1 (aCons (oOf (vBi gAbs (aCons (oPk 0) aNil))) (aCons (oOf (vBi gAbs (aCons (oPk 1) aNil))) aNil)))
    (sSeq (sWhile wc_law_common_1 wb_law_common_1)
    (sRet (vMv 0))))
noncomputable def phi_law_common : List D → Option CR := runB none 2 b_law_common
noncomputable def b_law_kind (c : Nat) (a : Addr) : SM :=
    (sSeq (sAsg (vLst (aCons (oOf (vC (.str "NoPlace"))) (aCons (oOf (vC (.str "NoLevel"))) (aCons (oOf (vC (.str "NoSymbol"))) (aCons (oOf (vC (.str "NoEnd"))) (aCons (oOf (vC (.str "Apart"))) (aCons (oOf (vC (.str "NoRow"))) (aCons (oOf (vC (.str "NotClosed"))) (aCons (oOf (vC (.str "NoDeed"))) (aCons (oOf (vC (.str "NoPart"))) (aCons (oOf (vC (.str "NoForm"))) aNil))))))))))) (gN 1))
    (sSeq (sAsg (vOp2 gAdd (oPk 1) (oOf (vLst (aCons (oOf (vC (.str "NoText"))) (aCons (oOf (vC (.str "NoName"))) aNil))))) (gN 1))
    (sSeq (sAsg (vLst (aCons (oOf (vIsX a (c == 1) (oPk 0))) (aCons (oOf (vIsX a (c == 2) (oPk 0))) (aCons (oOf (vIsX a (c == 3) (oPk 0))) (aCons (oOf (vIsX a (c == 4) (oPk 0))) aNil))))) (gN 2))
    (sSeq (sAsg (vOp2 gAdd (oPk 2) (oOf (vLst (aCons (oOf (vIsX a (c == 5) (oPk 0))) (aCons (oOf (vIsX a (c == 6) (oPk 0))) (aCons (oOf (vIsX a (c == 7) (oPk 0))) (aCons (oOf (vIsX a (c == 8) (oPk 0))) aNil))))))) (gN 2))
    (sSeq (sAsg (vOp2 gAdd (oPk 2) (oOf (vLst (aCons (oOf (vIsX a (c == 9) (oPk 0))) (aCons (oOf (vIsX a (c == 10) (oPk 0))) (aCons (oOf (vIsX a (c == 11) (oPk 0))) (aCons (oOf (vIsX a (c == 12) (oPk 0))) aNil))))))) (gN 2))
    (sSeq (sIf (tor (tst (vOp2 gNe (oOf (vMp ckL gCn (oPk 2) (aCons (oOf (vC (.bl true))) aNil))) (oOf (vC (.int 1))))) (tnot (tst (vIsX a true (oPk 0)))))
    (sRet (vC (.str "other")))
    sNx)
    (sRet (vOp2 gIx (oPk 1) (oOf (vMp ckL gIdB (oPk 2) (aCons (oOf (vC (.bl true))) aNil)))))))))))
noncomputable def phi_law_kind (c : Nat) (a : Addr) : List D → Option CR := runB none 3 (b_law_kind c a)
noncomputable def b_law_place : SM :=
    (sSeq (sAsg (vCall 2 none phi_law_common (aCons (oPk 0) (aCons (oPk 1) aNil))) (gN 2))
    (sSeq (sIf (tor (tst (vOp2 (gCmp fun i j => decide (i < j)) (oPk 1) (oOf (vC (.int 0))))) (tand (tst (vOp2 gEq (oPk 1) (oOf (vC (.int 0))))) (tst (vOp2 (gCmp fun i j => decide (i < j)) (oPk 0) (oOf (vC (.int 0)))))))
    (sAsg (vOp2 gSub (oOf (vC (.int 0))) (oPk 2)) (gN 2))
    sNx)
    (sRet (vTup (aCons (oOf (vOp2 gDiv (oPk 0) (oPk 2))) (aCons (oOf (vOp2 gDiv (oPk 1) (oPk 2))) aNil))))))
noncomputable def phi_law_place : List D → Option CR := runB none 3 b_law_place
noncomputable def b_law_drawn_place : SM :=
    (sSeq (sAsg (vOp2 gIx (oOf (vLst (aCons (oOf (vC (.int 4))) (aCons (oOf (vC (.int 30))) (aCons (oOf (vOp2 gPow (oOf (vC (.int 10))) (oOf (vC (.int 9))))) (aCons (oOf (vOp2 gPow (oOf (vC (.int 10))) (oOf (vC (.int 30))))) aNil)))))) (oOf (vOp2 gMod (oPk 0) (oOf (vC (.int 4)))))) (gN 1))
    (sSeq (sAsg (vOp2 gDiv (oPk 0) (oOf (vC (.int 4)))) (gN 0))
    (sSeq (sAsg (vOp2 gMul (oOf (vOp2 gMod (oPk 0) (oPk 1))) (oOf (vOp2 gSub (oOf (vC (.int 1))) (oOf (vOp2 gMul (oOf (vC (.int 2))) (oOf (vOp2 gMod (oOf (vOp2 gDiv (oPk 0) (oPk 1))) (oOf (vC (.int 2)))))))))) (gN 2))
    (sSeq (sAsg (vOp2 gMod (oOf (vOp2 gDiv (oPk 0) (oOf (vOp2 gMul (oOf (vC (.int 2))) (oPk 1))))) (oPk 1)) (gN 3))
    (sSeq (sIf (tand (tst (vOp2 gEq (oPk 2) (oOf (vC (.int 0))))) (tst (vOp2 gEq (oPk 3) (oOf (vC (.int 0))))))
    (sRet (vTup (aCons (oOf (vC (.int 1))) (aCons (oOf (vC (.int 0))) aNil))))
    sNx)
    (sRet (vCall 2 none phi_law_place (aCons (oPk 2) (aCons (oPk 3) aNil)))))))))
noncomputable def phi_law_drawn_place : List D → Option CR := runB none 4 b_law_drawn_place
noncomputable def lc_law_number_due_1 : M Bool :=
    (tst (vOp2 (gInS true) (oPk 2) (oOf (vC (.str "0123456789")))))
noncomputable def le_law_number_due_1 : M SV :=
    (vVar 2)
noncomputable def b_law_number_due : SM :=
    (sSeq (sAsg (vif (tst (vOp2 gEq (oOf (vSl (oPk 0) pNo (pIn (vC (.int 1))))) (oOf (vC (.str "-"))))) (vSl (oPk 0) (pIn (vC (.int 1))) pNo) (vVar 0)) (gN 1))
    (sSeq (sIf (tor (tst (vOp2 gEq (oPk 1) (oOf (vC (.str ""))))) (tor (tst (vOp2 (gCmp fun i j => decide (j < i)) (oOf (vBi gLen (aCons (oPk 1) aNil))) (oOf (vC (.int 30))))) (tst (vOp2 gNe (oOf (vLc [2] (iSg (oOf (vVar 1))) (gN 2) lc_law_number_due_1 le_law_number_due_1)) (oOf (vLst aNil))))))
    (sRet (vC .non))
    sNx)
    (sSeq (sIf (tst (vOp2 gNe (oOf (vBi gStr (aCons (oOf (vBi gIntS (aCons (oPk 0) aNil))) aNil))) (oPk 0)))
    (sRet (vC .non))
    sNx)
    (sRet (vBi gIntS (aCons (oPk 0) aNil))))))
noncomputable def phi_law_number_due : List D → Option CR := runB none 3 b_law_number_due
noncomputable def lc_law_place_due_1 : M Bool :=
    (ret true)
noncomputable def le_law_place_due_1 : M SV :=
    (vCall 1 none phi_law_number_due (aCons (oPk 4) aNil))
noncomputable def b_law_place_due : SM :=
    (sSeq (sAsg (vMp ckS gSplit (oPk 0) (aCons (oOf (vC (.str "/"))) aNil)) (gN 1))
    (sSeq (sIf (tst (vOp2 gNe (oOf (vBi gLen (aCons (oPk 1) aNil))) (oOf (vC (.int 2)))))
    (sRet (vC .non))
    sNx)
    (sSeq (sAsg (vLc [4] (iLs (oOf (vVar 1))) (gN 4) lc_law_place_due_1 le_law_place_due_1) (gLs 2 (gsC (gN 2) (gsC (gN 3) gsN))))
    (sSeq (sIf (tor (tst (vOp2 gIsN (oPk 2) (oOf (vC .non)))) (tor (tst (vOp2 gIsN (oPk 3) (oOf (vC .non)))) (tor (tst (vOp2 gNe (oOf (vCall 2 none phi_law_common (aCons (oPk 2) (aCons (oPk 3) aNil)))) (oOf (vC (.int 1))))) (tor (tst (vOp2 (gCmp fun i j => decide (i < j)) (oPk 3) (oOf (vC (.int 0))))) (tand (tst (vOp2 gEq (oPk 3) (oOf (vC (.int 0))))) (tst (vOp2 gNe (oPk 2) (oOf (vC (.int 1))))))))))
    (sRet (vC .non))
    sNx)
    (sRet (vTup (aCons (oOf (vVar 2)) (aCons (oOf (vVar 3)) aNil))))))))
noncomputable def phi_law_place_due : List D → Option CR := runB none 5 b_law_place_due
noncomputable def lc_law_walk_due_1 : M Bool :=
    (ret true)
noncomputable def le_law_walk_due_1 : M SV :=
    (vCall 1 none phi_law_place_due (aCons (oPk 2) aNil))
noncomputable def b_law_walk_due : SM :=
    (sSeq (sAsg (vLc [2] (iLs (oOf (vMp ckS gSplit (oPk 0) (aCons (oOf (vC (.str " "))) aNil)))) (gN 2) lc_law_walk_due_1 le_law_walk_due_1) (gN 1))
    (sSeq (sIf (tor (tst (vOp2 (gInS false) (oOf (vC .non)) (oPk 1))) (tnot (tst (vChain (gCmp fun i j => decide (i ≤ j)) (gCmp fun i j => decide (i ≤ j)) (oOf (vC (.int 2))) (oOf (vBi gLen (aCons (oPk 1) aNil))) (oOf (vC (.int 12)))))))
    (sRet (vC .non))
    sNx)
    (sRet (vMv 1))))
noncomputable def phi_law_walk_due : List D → Option CR := runB none 3 b_law_walk_due
noncomputable def tb_law_asked_1 : SM :=
    (sSeq (sIf (tst (vOp2 gEq (oPk 0) (oOf (vC (.int 0)))))
    (sRet (vCall 1 none phi_read_place (aCons (oPk 1) aNil)))
    sNx)
    (sRet (vCall 1 none phi_read_walk (aCons (oPk 1) aNil))))
noncomputable def te_law_asked_1 : Nat → Addr → SM :=
    (fun c a => (sRet (vTup (aCons (oOf (vC (.str "refused"))) (aCons (oOf (vCall 1 none (phi_law_kind c a) (aCons (oPk 2) aNil))) aNil)))))
noncomputable def b_law_asked : SM :=
    (sTry tb_law_asked_1 [11] 2 te_law_asked_1)
noncomputable def phi_law_asked : List D → Option CR := runB none 3 b_law_asked
noncomputable def b_law_changed : SM :=
    (sSeq (sAsg (vC (.str " !\"#$&'()*+,-./0123456789:;<=>?@ABCDEFGHIJKLMNOPQRSTUVWXYZ[\\]^_`abcdefghijklmnopqrstuvwxyz{|}~")) (gN 2))
    (sSeq (sAsg (vOp2 gIx (oPk 2) (oOf (vOp2 gMod (oPk 1) (oOf (vBi gLen (aCons (oPk 2) aNil)))))) (gN 3))
    (sSeq (sAsg (vOp2 gDiv (oPk 1) (oOf (vBi gLen (aCons (oPk 2) aNil)))) (gN 1))
    (sSeq (sIf (tst (vOp2 (gCmp fun i j => decide (j < i)) (oOf (vOp2 gMod (oPk 1) (oOf (vC (.int 4))))) (oOf (vC (.int 0)))))
    (sAsg (vOp2 gIx (oOf (vC (.str " -/0123456789"))) (oOf (vOp2 gMod (oOf (vOp2 gDiv (oPk 1) (oOf (vC (.int 4))))) (oOf (vC (.int 13)))))) (gN 3))
    sNx)
    (sSeq (sAsg (vOp2 gMod (oOf (vOp2 gDiv (oPk 1) (oOf (vC (.int 52))))) (oOf (vOp2 gAdd (oOf (vBi gLen (aCons (oPk 0) aNil))) (oOf (vC (.int 1)))))) (gN 4))
    (sSeq (sAsg (vOp2 gMod (oOf (vOp2 gDiv (oPk 1) (oOf (vC (.int 7))))) (oOf (vC (.int 3)))) (gN 5))
    (sSeq (sIf (tst (vOp2 gEq (oPk 5) (oOf (vC (.int 0)))))
    (sRet (vOp2 gAdd (oOf (vOp2 gAdd (oOf (vSl (oPk 0) pNo (pIn (vVar 4)))) (oPk 3))) (oOf (vSl (oPk 0) (pIn (vOp2 gAdd (oPk 4) (oOf (vC (.int 1))))) pNo))))
    sNx)
    (sSeq (sIf (tst (vOp2 gEq (oPk 5) (oOf (vC (.int 1)))))
    (sRet (vOp2 gAdd (oOf (vSl (oPk 0) pNo (pIn (vVar 4)))) (oOf (vSl (oPk 0) (pIn (vOp2 gAdd (oPk 4) (oOf (vC (.int 1))))) pNo))))
    sNx)
    (sRet (vOp2 gAdd (oOf (vOp2 gAdd (oOf (vSl (oPk 0) pNo (pIn (vVar 4)))) (oPk 3))) (oOf (vSl (oPk 0) (pIn (vVar 4)) pNo))))))))))))
noncomputable def phi_law_changed : List D → Option CR := runB none 6 b_law_changed
noncomputable def b_law_right : SM :=
    (sSeq (sAsg (vOp2 gIx (oOf (vLst (aCons (oOf (vCall 1 none phi_law_place_due (aCons (oPk 1) aNil))) (aCons (oOf (vCall 1 none phi_law_walk_due (aCons (oPk 1) aNil))) aNil)))) (oPk 0)) (gN 2))
    (sSeq (sIf (tst (vOp2 gIsN (oPk 2) (oOf (vC .non))))
    (sAsg (vTup (aCons (oOf (vC (.str "refused"))) (aCons (oOf (vC (.str "NoText"))) aNil))) (gN 2))
    sNx)
    (sRet (vOp2 gEq (oOf (vCall 2 none phi_law_asked (aCons (oPk 0) (aCons (oPk 1) aNil)))) (oPk 2)))))
noncomputable def phi_law_right : List D → Option CR := runB none 3 b_law_right
noncomputable def lc_law_1 : M Bool :=
    (ret true)
noncomputable def le_law_1 : M SV :=
    (vCall 1 none phi_law_drawn_place (aCons (oOf (vOp2 gAdd (oOf (vOp2 gDiv (oPk 2) (oOf (vOp2 gIx (oOf (vLst (aCons (oOf (vC (.int 1))) (aCons (oOf (vC (.int 61))) (aCons (oOf (vC (.int 3721))) aNil))))) (oOf (vOp2 gMod (oPk 8) (oOf (vC (.int 3))))))))) (oOf (vOp2 gMul (oPk 8) (oOf (vC (.int 104729))))))) aNil))
noncomputable def lc_law_2 : M Bool :=
    (ret true)
noncomputable def le_law_2 : M SV :=
    (vOp2 gAdd (oOf (vOp2 gAdd (oOf (vBi gStr (aCons (oPk 9) aNil))) (oOf (vC (.str "/"))))) (oOf (vBi gStr (aCons (oPk 10) aNil))))
noncomputable def fb_law_1 : SM :=
    (sIf (tor (tnot (tst (vCall 2 none phi_law_right (aCons (oPk 5) (aCons (oPk 4) aNil))))) (tnot (tst (vCall 2 none phi_law_right (aCons (oPk 5) (aCons (oOf (vCall 2 none phi_law_changed (aCons (oPk 4) (aCons (oOf (vOp2 gDiv (oPk 2) (oOf (vC (.int 12))))) aNil)))) aNil))))))
    (sRet (vC (.bl false)))
    sNx)
noncomputable def fb_law_2 : SM :=
    (sSeq (sAsg (vCall 2 none phi_law_number (aCons (oPk 0) (aCons (oPk 1) aNil))) (gN 2))
    (sSeq (sAsg (vLc [8] (iR1 (aCons (oOf (vOp2 gAdd (oOf (vC (.int 1))) (oOf (vOp2 gMod (oPk 2) (oOf (vC (.int 12))))))) aNil)) (gN 8) lc_law_1 le_law_1) (gN 3))
    (sSeq (sAsg (vMp ckS gJoin (oOf (vC (.str " "))) (aCons (oOf (vLc [9, 10] (iLs (oOf (vVar 3))) (gT 2 (gsC (gN 9) (gsC (gN 10) gsN))) lc_law_2 le_law_2)) aNil)) (gN 4))
    (sFor (iTp (oOf (vTup (aCons (oOf (vC (.int 0))) (aCons (oOf (vC (.int 1))) aNil))))) (gN 5) fb_law_1))))
noncomputable def fb_law_3 : SM :=
    (sIf (tst (vOp2 gNe (oOf (vCall 2 none phi_law_asked (aCons (oPk 5) (aCons (oPk 7) aNil)))) (oOf (vTup (aCons (oOf (vC (.str "refused"))) (aCons (oOf (vC (.str "NoText"))) aNil))))))
    (sRet (vC (.bl false)))
    sNx)
noncomputable def fb_law_4 : SM :=
    (sFor (iTp (oOf (vTup (aCons (oOf (vC (.int 0))) (aCons (oOf (vC (.int 1))) aNil))))) (gN 5) fb_law_3)
noncomputable def b_law : SM :=
    (sSeq (sFor (iR1 (aCons (oOf (vBi gMax (aCons (oOf (vC (.int 2))) (aCons (oOf (vBi gMin (aCons (oOf (vC (.int 8))) (aCons (oOf (vBi gLen (aCons (oPk 0) aNil))) aNil)))) aNil)))) aNil)) (gN 1) fb_law_2)
    (sSeq (sAsg (vLst (aCons (oOf (vC (.str ""))) (aCons (oOf (vC (.str " "))) (aCons (oOf (vC (.str "/"))) (aCons (oOf (vC (.str "1"))) (aCons (oOf (vC (.str "1/"))) (aCons (oOf (vC (.str "/1"))) (aCons (oOf (vC (.str "1/1/1"))) (aCons (oOf (vC (.str "2/4"))) aNil))))))))) (gN 6))
    (sSeq (sAsg (vOp2 gAdd (oPk 6) (oOf (vLst (aCons (oOf (vC (.str "-1/0"))) (aCons (oOf (vC (.str "0/0"))) (aCons (oOf (vC (.str "0/2"))) (aCons (oOf (vC (.str "1/-2"))) (aCons (oOf (vC (.str "+1/2"))) (aCons (oOf (vC (.str "01/2"))) (aCons (oOf (vC (.str "1/02"))) (aCons (oOf (vC (.str "-0/1"))) aNil))))))))))) (gN 6))
    (sSeq (sAsg (vOp2 gAdd (oPk 6) (oOf (vLst (aCons (oOf (vC (.str "1 /2"))) (aCons (oOf (vC (.str "1/2 "))) (aCons (oOf (vC (.str " 1/2"))) (aCons (oOf (vC (.str "1.0/2"))) (aCons (oOf (vC (.str "1_0/3"))) aNil)))))))) (gN 6))
    (sSeq (sAsg (vOp2 gAdd (oPk 6) (oOf (vLst (aCons (oOf (vC (.str "--1/2"))) (aCons (oOf (vOp2 gAdd (oOf (vOp2 gRepS (oOf (vC (.str "1"))) (oOf (vC (.int 31))))) (oOf (vC (.str "/1"))))) (aCons (oOf (vOp2 gAdd (oOf (vC (.str "1/"))) (oOf (vOp2 gRepS (oOf (vC (.str "1"))) (oOf (vC (.int 31))))))) (aCons (oOf (vC (.str "x"))) (aCons (oOf (vC (.str "1/0/"))) aNil)))))))) (gN 6))
    (sSeq (sAsg (vOp2 gAdd (oPk 6) (oOf (vLst (aCons (oOf (vC .non)) (aCons (oOf (vC (.int 5))) (aCons (oOf (vC (.bl true))) (aCons (oOf (vTup (aCons (oOf (vC (.int 1))) (aCons (oOf (vC (.int 2))) aNil)))) (aCons (oOf (vLst (aCons (oOf (vC (.str "1/2"))) aNil))) (aCons (oOf (vC (.str "1/2  1/3"))) (aCons (oOf (vC (.str "1/2,1/3"))) (aCons (oOf (vC (.str "1/2\n1/3"))) aNil))))))))))) (gN 6))
    (sSeq (sFor (iLs (oOf (vVar 6))) (gN 7) fb_law_4)
    (sRet (vand (vOp2 gEq (oOf (vCall 2 none phi_law_asked (aCons (oOf (vC (.int 1))) (aCons (oOf (vMp ckS gJoin (oOf (vC (.str " "))) (aCons (oOf (vOp2 gRep (oOf (vLst (aCons (oOf (vC (.str "1/0"))) aNil))) (oOf (vC (.int 13))))) aNil))) aNil)))) (oOf (vTup (aCons (oOf (vC (.str "refused"))) (aCons (oOf (vC (.str "NoText"))) aNil))))) (vOp2 gEq (oOf (vCall 2 none phi_law_asked (aCons (oOf (vC (.int 0))) (aCons (oOf (vC (.str "1/0"))) aNil)))) (oOf (vTup (aCons (oOf (vC (.int 1))) (aCons (oOf (vC (.int 0))) aNil))))))))))))))
noncomputable def phi_law : List D → Option CR := runB none 11 b_law
end LawW

namespace LawW
open PySem PySem.Spec PyProof.Rows L2 Sim
local macro_rules | `(tactic| simp_arith only [$ts,*]) => `(tactic| simp -implicitDefEqProofs only [e_seq, k_seq1, k_seq2, k_seq3, k_seq4, k_seq5, e_ex, k_ex1, k_ex2, e_bnd, k_bn1, k_bn2, e_ret, e_nx, e_bk, e_ct, e_c, e_var, k_var1, k_var2, e_mv, k_mv1, k_mv2, e_pk, k_pk, e_get1, e_get2, k_sd1, k_sd2, e_gets1, e_gets2, k_gs, e_vals1, e_vals2, e_oOf, e_d1, e_d2, e_an, e_ac, e_op1, e_op2, e_bi, e_l1, k_l1, e_l2, k_l2, e_lA, k_lA, k_ok, e_tst, k_ts1, k_ts2, e_tand, e_tor, e_tnot, e_vand, e_vor, e_vnot, e_vif, e_iteT, e_iteF, e_tup, k_tp, e_lst, k_ls, e_is, e_call, e_callM, k_cl, k_rs, e_if, e_sret, e_sretN, e_drop, e_asg, k_nx, e_gN, e_gT, e_gLs1, e_gLs2, e_gsN, e_gsC, e_par, e_run, k_ru1, k_ru2, k_ru3, e_out1, e_out2, k_os, e_start, e_stl1, e_stl2, e_fro, e_isFr, k_fr1, k_fr2, e_ioOk1, e_ioOk2, k_ioOk, e_noBr, e_ios1, e_ios2, e_brs1, e_brs2, e_brs3, e_brs4, e_brs5, e_dec1, e_dec2, e_dec3, e_put1, k_put, e_put2, e_outOf1, e_outOf2, e_guard, e_setIx, e_stK, k_stI, e_mt, e_mtK, k_app, k_ext, k_rvs, k_pop, e_chain, e_for, e_forL1, k_turn1, k_turn2, k_turn3, k_turn4, k_turn5, e_R1, k_R1, e_R2, k_R2, e_iLs, k_it, e_iTp, k_tI, e_lsV, e_lsS, k_ls1, k_ls2, k_ls3, e_iZp, e_iEn, e_iRv, e_iSg, k_jSg, e_jZp, k_zp, e_jEn, e_jRev, e_sl, e_pNo, e_pIn, k_pn, e_slL, cut_1, isLst_lst, isLst_tup, isLst_int, e_eqI, e_neI, e_eqB, e_neB, gStr_ok, isInt_int, isInt_bl, isInt_str, isInt_non, isInt_tup, isInt_lst, isBl_int, isBl_bl, isBl_tup, isTup_int, isTup_bl, isTup_str, isTup_non, isTup_tup, isTup_lst, e_sub, e_add, e_addL, e_neg, e_cmp, e_ixL, e_ixT, e_ixS, e_abs, e_max, e_max4, e_min, e_intI, e_intB, e_lenL, e_lenT, e_lenS, e_isT1, e_isT2, e_isT3, e_isTL1, e_isTL2, e_resT1, e_resT2, shL, e_mp, e_mpN, e_mpF, k_mf, k_ck, ckL_1, ckS_1, e_revL, e_gRv, e_iR3, e_jR3, k_R3, isN_1, isN_2, e_callF, k_callF, k_cf, e_callG, k_callG, gIs_non, gIs_bl, gIs_int, gIs_str, gIs_tup, gIs_lst, gIs_scr, e_meth, e_mtO, k_isOb, e_mtC, k_okO, e_mk, k_mk, k_mkQ, e_mkE, k_mkE, k_mkR1, k_mkR2, k_fld, e_d3, e_d4, e_d5, k_var3, k_var4, k_var5, k_mv3, k_sd3, k_sd4, k_sd5, e_isOw, k_ow1, k_ow2, e_resOk, e_resL1, e_resL2, e_noBrL, e_isL1, e_isL2, e_isL3, e_isL4, e_isL5, e_isL6, e_isLL1, e_isLL2, k_fr3, k_fr4, k_fr5, e_dnK, e_dnT, e_dputT, e_dputK, e_isDt, e_isDk, k_isDt, k_isDk, e_dtK2, e_dpK, k_dtI, k_dkI, e_keyI, e_keyS, e_inK, e_dxK, e_inT, e_dxT, e_intL2, e_callB, e_clB, k_clB, k_rsB, e_outB1, e_outB2, e_dropO, k_dr, e_runG, k_rg1, k_rg2, k_rg3, e_methE, e_mtOE, e_mtE, List.getElem?_cons_zero, List.getElem?_cons_succ, List.getElem?_nil, List.set_cons_zero, List.set_cons_succ, List.length_cons, List.length_nil, List.map_cons, List.map_nil, List.nil_append, List.cons_append, List.replicate_succ, List.replicate_zero, List.all_nil, List.all_cons, List.contains_nil, List.contains_cons, Option.map_some, Option.map_none, Option.bind_some, Option.bind_none, Bool.and_true, Bool.true_and, Bool.and_false, Bool.false_and, Bool.or_true, Bool.true_or, Bool.or_false, Bool.false_or, Bool.not_true, Bool.not_false, Bool.not_not, Nat.zero_add, Nat.reduceAdd, Nat.reduceSub, Nat.reduceLT, Nat.reduceLeDiff, Nat.reduceEqDiff, reduceIte, if_true, if_false, atI_0, atI_1, atI_2, atI_3, gMul_ok, gMod_pos, gDiv_pos, true_and, and_true, and_self, Nat.reduceBEq, Nat.reduceBNe, beq_self_eq_true, decide_true, decide_false, not_false_iff, not_true, ne_eq, gt_iff_lt, ge_iff_le, Int.reduceEq, Int.reduceNe, Int.reduceLT, Int.reduceLE, Int.cast_ofNat_Int, Int.natCast_one, Int.natCast_zero, reduceCtorEq, Bool.false_eq_true, eq_self, $ts,*])
def Bd (k : Nat) (x : Int) : Prop := x.natAbs < 2 ^ k
def Bd4 (k : Nat) (a b c d : Int) : Prop := Bd k a ∧ Bd k b ∧ Bd k c ∧ Bd k d
def Sm (x : Int) : Prop := -(2 ^ 64) < x ∧ x < 2 ^ 64
theorem pw_le {k m : Nat} (h : k ≤ m) : 2 ^ k ≤ 2 ^ m := Nat.pow_le_pow_right (by decide) h
theorem Bd.mono {k m : Nat} {x : Int} (h : Bd k x) (e : k ≤ m) : Bd m x := Nat.lt_of_lt_of_le h (pw_le e)
theorem Bd.sm {k : Nat} {x : Int} (h : Bd k x) (hk : k ≤ 64) : Sm x := by
  have e := h.mono hk
  unfold Bd at e
  unfold Sm
  have e2 : (2 : Nat) ^ 64 = 18446744073709551616 := by decide
  have e3 : (2 : Int) ^ 64 = 18446744073709551616 := by decide
  rw [e2] at e
  rw [e3]
  omega
theorem Bd4.mono {k m : Nat} {a b c d : Int} (h : Bd4 k a b c d) (e : k ≤ m) : Bd4 m a b c d := ⟨h.1.mono e, h.2.1.mono e, h.2.2.1.mono e, h.2.2.2.mono e⟩
theorem rng_len {lo : Int} {n : Nat} : (rngD lo n).length = n := by unfold rngD; rw [List.length_map, List.length_range]
theorem Bd.le {k : Nat} {x y : Int} (h : Bd k y) (e : x.natAbs ≤ y.natAbs) : Bd k x := Nat.lt_of_le_of_lt e h
abbrev P2 (p q : Int) : D := .tup [.int p, .int q]
/-- a comprehension with a test -/
theorem lcL_fm {vs : List Nat} {pk : List (Nat × List D)} {g : SV → Sl → Option Sl} {c : M Bool} {elt : M SV} {p : D → Bool} {f : D → D} (St : Sl → Prop) : ∀ {ds : List D} {acc : List D} {ρ : Sl},
    (∀ d ∈ ds, ∀ ρ, St ρ → ∃ ρ1 ρ2, g (.sh d) (wipeS ρ vs) = some ρ1 ∧ c ρ1 = some (.ok (p d) ρ2) ∧ (p d = false → St ρ2) ∧ (p d = true → ∃ ρ3, elt ρ2 = some (.ok (.sh (f d)) ρ3) ∧ St ρ3)) → (∀ ρ, St ρ → pkOk pk (wipeS ρ vs)) → acc.length + ds.length ≤ 1000000 → St ρ →
    ∃ ρ', lcL vs pk g c elt ds acc ρ = some (acc ++ (ds.filter p).map f, ρ') ∧ St ρ'
  | [], acc, ρ, _, hp, _, h0 => by
    refine ⟨ρ, ?_, h0⟩
    unfold lcL
    rw [if_pos (hp ρ h0), List.filter_nil, List.map_nil, List.append_nil]
  | d :: ds, acc, ρ, h, hp, hl, h0 => by
    rw [List.length_cons] at hl
    obtain ⟨ρ1, ρ2, h1, h2, h3, h4⟩ := h d List.mem_cons_self ρ h0
    cases hpd : p d with
    | false =>
      obtain ⟨ρ', e, k⟩ := lcL_fm St (ds := ds) (acc := acc) (ρ := ρ2) (fun d hd => h d (List.mem_cons_of_mem _ hd)) hp (by omega) (h3 hpd)
      refine ⟨ρ', ?_, k⟩
      unfold lcL
      rw [if_pos ⟨hp ρ h0, by omega⟩, h1]
      show (match c ρ1 with | some (.ok true ρ2) => _ | some (.ok false ρ2) => lcL vs pk g c elt ds acc ρ2 | _ => none) = _
      rw [h2, hpd]
      show lcL vs pk g c elt ds acc ρ2 = _
      rw [e, List.filter_cons, hpd]
      rfl
    | true =>
      obtain ⟨ρ3, h5, h6⟩ := h4 hpd
      obtain ⟨ρ', e, k⟩ := lcL_fm St (ds := ds) (acc := acc ++ [f d]) (ρ := ρ3) (fun d hd => h d (List.mem_cons_of_mem _ hd)) hp (by rw [List.length_append, List.length_cons, List.length_nil]; omega) h6
      refine ⟨ρ', ?_, k⟩
      unfold lcL
      rw [if_pos ⟨hp ρ h0, by omega⟩, h1]
      show (match c ρ1 with | some (.ok true ρ2) => (match elt ρ2 with | some (.ok sv ρ3) => lcL vs pk g c elt ds (acc ++ [sv.d]) ρ3 | _ => none) | some (.ok false ρ2) => lcL vs pk g c elt ds acc ρ2 | _ => none) = _
      rw [h2, hpd]
      show (match elt ρ2 with | some (.ok sv ρ3) => lcL vs pk g c elt ds (acc ++ [sv.d]) ρ3 | _ => none) = _
      rw [h5]
      show lcL vs pk g c elt ds (acc ++ [f d]) ρ3 = _
      rw [e, List.filter_cons, hpd, List.append_assoc]
      rfl
theorem vLc_fm {vs : List Nat} {it : M Itb} {ib : Itb} {g : SV → Sl → Option Sl} {c : M Bool} {elt : M SV} {p : D → Bool} {f : D → D} (St : Sl → Prop) {ρ ρ0 : Sl} (hi : it ρ0 = some (.ok ib ρ)) (hn : noFr ρ vs) (hq : ∀ q ∈ ib.pk, q.1 ∉ vs) (hk : pkOk ib.pk ρ)
    (h : ∀ d ∈ ib.ds, ∀ ρ, St ρ → ∃ ρ1 ρ2, g (.sh d) (wipeS ρ vs) = some ρ1 ∧ c ρ1 = some (.ok (p d) ρ2) ∧ (p d = false → St ρ2) ∧ (p d = true → ∃ ρ3, elt ρ2 = some (.ok (.sh (f d)) ρ3) ∧ St ρ3)) (hp : ∀ ρ, St ρ → pkOk ib.pk (wipeS ρ vs)) (hl : ib.ds.length ≤ 1000000) (h0 : St ρ) :
    ∃ ρ', vLc vs it g c elt ρ0 = some (.ok (.fr ((ib.ds.filter p).map f)) (restS ρ ρ' vs)) ∧ St ρ' := by
  obtain ⟨ρ', e, h1⟩ := lcL_fm St (ds := ib.ds) (acc := []) (ρ := ρ) h hp (by rw [List.length_nil]; omega) h0
  refine ⟨ρ', ?_, h1⟩
  unfold vLc
  rw [bnd_ok hi]
  rw [if_pos ⟨hn, hq, hk⟩, e]
  rfl
theorem rng_small {n : Int} (h0 : -1000 ≤ n) (h : n ≤ 1000000) : RngOk n := by
  unfold RngOk
  have e2 : (2 : Int) ^ 62 = 4611686018427387904 := by decide
  rw [e2]
  omega
/-! a comprehension whose parts change nothing but its own names -/
theorem wipe_get {ρ : Sl} {j : Nat} : ∀ {vs : List Nat}, j ∉ vs → (wipeS ρ vs)[j]? = ρ[j]?
  | [], _ => rfl
  | v :: vs, h => by
    rw [List.mem_cons, not_or] at h
    unfold wipeS
    rw [List.getElem?_set_ne (fun e => h.1 e.symm)]
    exact wipe_get h.2
theorem rest_get {ρ0 ρ : Sl} {j : Nat} : ∀ {vs : List Nat}, j ∉ vs → (restS ρ0 ρ vs)[j]? = ρ[j]?
  | [], _ => rfl
  | v :: vs, h => by
    rw [List.mem_cons, not_or] at h
    unfold restS
    rw [List.getElem?_set_ne (fun e => h.1 e.symm)]
    exact rest_get h.2
theorem rest_in {ρ0 ρ : Sl} {j : Nat} (hj : j < ρ.length) : ∀ {vs : List Nat}, j ∈ vs → (restS ρ0 ρ vs)[j]? = some (ρ0[j]?.getD none)
  | [], h => nomatch h
  | v :: vs, h => by
    unfold restS
    by_cases e : v = j
    · subst e
      rw [List.getElem?_set_self (by rw [restS_length]; exact hj)]
    · rw [List.getElem?_set_ne e]
      exact rest_in hj ((List.mem_cons.mp h).resolve_left (fun z => e z.symm))
theorem rest_wipe {ρ ρ' : Sl} {vs : List Nat} (hl : ρ'.length = ρ.length) (hw : wipeS ρ' vs = wipeS ρ vs) : restS ρ ρ' vs = ρ := by
  refine List.ext_getElem? fun j => ?_
  by_cases hj : j ∈ vs
  · by_cases h1 : j < ρ.length
    · rw [rest_in (by omega) hj, List.getElem?_eq_getElem h1]
      rfl
    · rw [List.getElem?_eq_none (by rw [restS_length]; omega), List.getElem?_eq_none (by omega)]
  · rw [rest_get hj, ← wipe_get (ρ := ρ') hj, hw, wipe_get hj]
theorem vLc_pure {vs : List Nat} {it : M Itb} {ds : List D} {pk : List (Nat × List D)} {g : SV → Sl → Option Sl} {c : M Bool} {elt : M SV} {p : D → Bool} {f : D → D} {ρ ρ0 : Sl} (hi : it ρ0 = some (.ok ⟨ds, pk⟩ ρ)) (hn : noFr ρ vs) (hq : ∀ q ∈ pk, q.1 ∉ vs) (hk : pkOk pk ρ)
    (h : ∀ d ∈ ds, ∃ ρ1, g (.sh d) (wipeS ρ vs) = some ρ1 ∧ ρ1.length = ρ.length ∧ wipeS ρ1 vs = wipeS ρ vs ∧ c ρ1 = some (.ok (p d) ρ1) ∧ (p d = true → elt ρ1 = some (.ok (.sh (f d)) ρ1))) (hl : ds.length ≤ 1000000) :
    vLc vs it g c elt ρ0 = some (.ok (.fr ((ds.filter p).map f)) ρ) := by
  obtain ⟨ρ', e, h1, h2⟩ := vLc_fm (vs := vs) (it := it) (ib := ⟨ds, pk⟩) (g := g) (c := c) (elt := elt) (p := p) (f := f) (fun ρ' => ρ'.length = ρ.length ∧ wipeS ρ' vs = wipeS ρ vs) (ρ := ρ) (ρ0 := ρ0) hi hn hq hk
    (by
      rintro d hd ρ' ⟨h1, h2⟩
      obtain ⟨ρ1, e1, e2, e3, e4, e5⟩ := h d hd
      rw [h2]
      refine ⟨ρ1, ρ1, e1, e4, fun _ => ⟨e2, e3⟩, fun hp => ⟨ρ1, e5 hp, e2, e3⟩⟩)
    (by
      rintro ρ' ⟨h1, h2⟩ q hq'
      rw [h2, wipe_get (hq q hq')]
      exact hk q hq')
    hl ⟨rfl, rfl⟩
  rw [e, rest_wipe h1 h2]
/-- the same over what is not borrowed -/
theorem vLc_sh {vs : List Nat} {it : M Itb} {ds : List D} {g : SV → Sl → Option Sl} {c : M Bool} {elt : M SV} {p : D → Bool} {f : D → D} {ρ ρ0 : Sl} (hi : it ρ0 = some (.ok ⟨ds, []⟩ ρ)) (hn : noFr ρ vs)
    (h : ∀ d ∈ ds, ∃ ρ1, g (.sh d) (wipeS ρ vs) = some ρ1 ∧ ρ1.length = ρ.length ∧ wipeS ρ1 vs = wipeS ρ vs ∧ c ρ1 = some (.ok (p d) ρ1) ∧ (p d = true → elt ρ1 = some (.ok (.sh (f d)) ρ1))) (hl : ds.length ≤ 1000000) :
    vLc vs it g c elt ρ0 = some (.ok (.fr ((ds.filter p).map f)) ρ) := vLc_pure hi hn (fun _ h => nomatch h) (fun _ h => nomatch h) h hl
theorem filter_true' {α : Type} (l : List α) : l.filter (fun _ => true) = l := List.filter_eq_self.mpr fun _ _ => rfl
theorem noFr_1 {ρ : Sl} {v : Nat} {x : Option (Option SV)} (h : ρ[v]? = x) (hx : ∀ c, x ≠ some (some (.ow c))) : noFr ρ [v] := fun w hw c e => by
  rw [List.mem_singleton] at hw
  subst hw
  exact hx c (h ▸ e)
theorem noFr_of {ρ : Sl} {vs : List Nat} (h : ∀ v ∈ vs, ρ[v]? = some none) : noFr ρ vs := fun v hv c e => by
  rw [h v hv] at e
  cases e
/-! a comprehension whose elements are known by a relation -/
theorem lcL_rel {vs : List Nat} {pk : List (Nat × List D)} {g : SV → Sl → Option Sl} {elt : M SV} (St : Sl → Prop) : ∀ {ds : List D} {acc : List D} {ρ : Sl} (Rl : Nat → D → Prop),
    (∀ i d, ds[i]? = some d → ∀ ρ, St ρ → ∃ ρ1 sv ρ3, g (.sh d) (wipeS ρ vs) = some ρ1 ∧ elt ρ1 = some (.ok sv ρ3) ∧ Rl i sv.d ∧ St ρ3) → (∀ ρ, St ρ → pkOk pk (wipeS ρ vs)) → acc.length + ds.length ≤ 1000000 → St ρ →
    ∃ l ρ', lcL vs pk g (ret true) elt ds acc ρ = some (acc ++ l, ρ') ∧ (l.length = ds.length ∧ ∀ i, i < ds.length → ∃ d, l[i]? = some d ∧ Rl i d) ∧ St ρ'
  | [], acc, ρ, Rl, _, hp, _, h0 => by
    refine ⟨[], ρ, ?_, ⟨rfl, fun i h => absurd h (Nat.not_lt_zero _)⟩, h0⟩
    unfold lcL
    rw [if_pos (hp ρ h0), List.append_nil]
  | d :: ds, acc, ρ, Rl, h, hp, hl, h0 => by
    rw [List.length_cons] at hl
    obtain ⟨ρ1, sv, ρ3, h1, h2, h3, h4⟩ := h 0 d rfl ρ h0
    obtain ⟨l, ρ', e, ⟨k1, k2⟩, k3⟩ := lcL_rel St (ds := ds) (acc := acc ++ [sv.d]) (ρ := ρ3) (fun i => Rl (i + 1)) (fun i d hd => h (i + 1) d (by simpa using hd)) hp (by rw [List.length_append, List.length_cons, List.length_nil]; omega) h4
    refine ⟨sv.d :: l, ρ', ?_, ⟨by rw [List.length_cons, List.length_cons, k1], fun i hi => ?_⟩, k3⟩
    · unfold lcL
      rw [if_pos ⟨hp ρ h0, by omega⟩, h1]
      show (match elt ρ1 with | some (.ok sv ρ3) => lcL vs pk g (ret true) elt ds (acc ++ [sv.d]) ρ3 | _ => none) = _
      rw [h2]
      show lcL vs pk g (ret true) elt ds (acc ++ [sv.d]) ρ3 = _
      rw [e, List.append_assoc]
      rfl
    · cases i with
      | zero => exact ⟨sv.d, rfl, h3⟩
      | succ i =>
        rw [List.length_cons] at hi
        obtain ⟨d', q1, q2⟩ := k2 i (by omega)
        exact ⟨d', by simpa using q1, q2⟩
theorem vLc_relP {vs : List Nat} {it : M Itb} {ds : List D} {pk : List (Nat × List D)} {g : SV → Sl → Option Sl} {c : M Bool} {elt : M SV} {ρ ρ0 : Sl} (hi : it ρ0 = some (.ok ⟨ds, pk⟩ ρ)) (hn : noFr ρ vs) (hq : ∀ q ∈ pk, q.1 ∉ vs) (hk : pkOk pk ρ) {Rl : Nat → D → Prop} (hc : c = ret true)
    (h : ∀ i d, ds[i]? = some d → ∃ ρ1 sv, g (.sh d) (wipeS ρ vs) = some ρ1 ∧ ρ1.length = ρ.length ∧ wipeS ρ1 vs = wipeS ρ vs ∧ elt ρ1 = some (.ok sv ρ1) ∧ Rl i sv.d) (hl : ds.length ≤ 1000000) :
    ∃ l, vLc vs it g c elt ρ0 = some (.ok (.fr l) ρ) ∧ (l.length = ds.length ∧ ∀ i, i < ds.length → ∃ d, l[i]? = some d ∧ Rl i d) := by
  subst hc
  obtain ⟨l, ρ', e, k, h1, h2⟩ := lcL_rel (vs := vs) (pk := pk) (ds := ds) (acc := []) (g := g) (elt := elt) (fun ρ' => ρ'.length = ρ.length ∧ wipeS ρ' vs = wipeS ρ vs) (ρ := ρ) Rl
    (by
      rintro i d hd ρ' ⟨h1, h2⟩
      obtain ⟨ρ1, sv, e1, e2, e3, e4, e5⟩ := h i d hd
      rw [h2]
      exact ⟨ρ1, sv, ρ1, e1, e4, e5, e2, e3⟩)
    (by
      rintro ρ' ⟨h1, h2⟩ q hq'
      rw [h2, wipe_get (hq q hq')]
      exact hk q hq')
    (by rw [List.length_nil]; omega) ⟨rfl, rfl⟩
  refine ⟨l, ?_, k⟩
  unfold vLc
  rw [bnd_ok hi]
  rw [if_pos ⟨hn, hq, hk⟩, e]
  show some (Out.ok (SV.fr ([] ++ l)) (restS ρ ρ' vs)) = _
  rw [rest_wipe h1 h2, List.nil_append]
theorem vLc_rel {vs : List Nat} {it : M Itb} {ds : List D} {g : SV → Sl → Option Sl} {c : M Bool} {elt : M SV} {ρ ρ0 : Sl} (hi : it ρ0 = some (.ok ⟨ds, []⟩ ρ)) (hn : noFr ρ vs) {Rl : Nat → D → Prop} (hc : c = ret true)
    (h : ∀ i d, ds[i]? = some d → ∃ ρ1 sv, g (.sh d) (wipeS ρ vs) = some ρ1 ∧ ρ1.length = ρ.length ∧ wipeS ρ1 vs = wipeS ρ vs ∧ elt ρ1 = some (.ok sv ρ1) ∧ Rl i sv.d) (hl : ds.length ≤ 1000000) :
    ∃ l, vLc vs it g c elt ρ0 = some (.ok (.fr l) ρ) ∧ (l.length = ds.length ∧ ∀ i, i < ds.length → ∃ d, l[i]? = some d ∧ Rl i d) := vLc_relP hi hn (fun _ h => nomatch h) (fun _ h => nomatch h) hc h hl
theorem noFr2 {ρ : Sl} {v w : Nat} (h : ρ[v]? = some none) (h2 : ρ[w]? = some none) : noFr ρ [v, w] := noFr_of fun z hz => by
  rcases List.mem_cons.mp hz with rfl | hz
  · exact h
  · rw [List.mem_singleton] at hz
    subst hz
    exact h2
theorem forR_from {g : SV → Sl → Option Sl} {body : SM} (Inv : Nat → Sl → Prop) {lo : Int} : ∀ (m j : Nat) (ρ : Sl), Inv j ρ → (∀ i, j ≤ i → i < j + m → ∀ ρ, Inv i ρ → ∃ ρ1 ρ2, g (.sh (.int (lo + (i : Int)))) ρ = some ρ1 ∧ body ρ1 = some (.nx ρ2) ∧ Inv (i + 1) ρ2) →
    ∃ ρ', forL g body ((List.range' j m).map fun k => D.int (lo + (k : Nat))) ρ = some (.nx ρ') ∧ Inv (j + m) ρ'
  | 0, j, ρ, h0, _ => ⟨ρ, rfl, h0⟩
  | m + 1, j, ρ, h0, h => by
    obtain ⟨ρ1, ρ2, h1, h2, h3⟩ := h j (Nat.le_refl j) (by omega) ρ h0
    obtain ⟨ρ', e, k⟩ := forR_from Inv m (j + 1) ρ2 h3 (fun i hi hi2 => h i (by omega) (by omega))
    refine ⟨ρ', ?_, by rw [show j + (m + 1) = j + 1 + m by omega]; exact k⟩
    rw [List.range'_succ, List.map_cons]
    exact (forL_cons h1 h2).trans e
/-- a loop over a range, with an invariant that knows the turn -/
theorem forR {g : SV → Sl → Option Sl} {body : SM} (Inv : Nat → Sl → Prop) {lo : Int} {m : Nat} {ρ : Sl} (h0 : Inv 0 ρ) (h : ∀ i, i < m → ∀ ρ, Inv i ρ → ∃ ρ1 ρ2, g (.sh (.int (lo + (i : Int)))) ρ = some ρ1 ∧ body ρ1 = some (.nx ρ2) ∧ Inv (i + 1) ρ2) : ∃ ρ', forL g body (rngD lo m) ρ = some (.nx ρ') ∧ Inv m ρ' := by
  obtain ⟨ρ', e, k⟩ := forR_from Inv (lo := lo) m 0 ρ h0 (fun i _ hi => h i (by omega))
  rw [Nat.zero_add] at k
  refine ⟨ρ', ?_, k⟩
  unfold rngD
  rw [List.range_eq_range']
  exact e
theorem iabs_nat {c : Int} : (if c < 0 then -c else c) = ((c.natAbs : Nat) : Int) := by split <;> omega
theorem iabs_eq {c : Int} : gAbs [.int c] = some (.sh (.int ((c.natAbs : Nat) : Int))) := by rw [e_abs, iabs_nat]
theorem common_loop {x2 : List (Option SV)} : ∀ (y x : Nat), sWhile wc_law_common_1 wb_law_common_1 [some (.sh (.int x)), some (.sh (.int y))] = some (.nx [some (.sh (.int (Nat.gcd x y : Nat))), some (.sh (.int 0))]) := by
  intro y
  induction y using Nat.strongRecOn with
  | _ y ih =>
    intro x
    rcases Nat.eq_zero_or_pos y with rfl | hy
    · rw [Nat.gcd_zero_right]
      refine sWhile_stop ?_
      unfold wc_law_common_1
      simp only [e_seq, k_seq1, k_seq2, k_seq3, k_seq4, k_seq5, e_ex, k_ex1, k_ex2, e_bnd, k_bn1, k_bn2, e_ret, e_nx, e_bk, e_ct, e_c, e_var, k_var1, k_var2, e_mv, k_mv1, k_mv2, e_pk, k_pk, e_get1, e_get2, k_sd1, k_sd2, e_gets1, e_gets2, k_gs, e_vals1, e_vals2, e_oOf, e_d1, e_d2, e_an, e_ac, e_op1, e_op2, e_bi, e_l1, k_l1, e_l2, k_l2, e_lA, k_lA, k_ok, e_tst, k_ts1, k_ts2, e_tand, e_tor, e_tnot, e_vand, e_vor, e_vnot, e_vif, e_iteT, e_iteF, e_tup, k_tp, e_lst, k_ls, e_is, e_call, e_callM, k_cl, k_rs, e_if, e_sret, e_sretN, e_drop, e_asg, k_nx, e_gN, e_gT, e_gLs1, e_gLs2, e_gsN, e_gsC, e_par, e_run, k_ru1, k_ru2, k_ru3, e_out1, e_out2, k_os, e_start, e_stl1, e_stl2, e_fro, e_isFr, k_fr1, k_fr2, e_ioOk1, e_ioOk2, k_ioOk, e_noBr, e_ios1, e_ios2, e_brs1, e_brs2, e_brs3, e_brs4, e_brs5, e_dec1, e_dec2, e_dec3, e_put1, k_put, e_put2, e_outOf1, e_outOf2, e_guard, e_setIx, e_stK, k_stI, e_mt, e_mtK, k_app, k_ext, k_rvs, k_pop, e_chain, e_for, e_forL1, k_turn1, k_turn2, k_turn3, k_turn4, k_turn5, e_R1, k_R1, e_R2, k_R2, e_iLs, k_it, e_iTp, k_tI, e_lsV, e_lsS, k_ls1, k_ls2, k_ls3, e_iZp, e_iEn, e_iRv, e_iSg, k_jSg, e_jZp, k_zp, e_jEn, e_jRev, e_sl, e_pNo, e_pIn, k_pn, e_slL, cut_1, isLst_lst, isLst_tup, isLst_int, e_eqI, e_neI, e_eqB, e_neB, gStr_ok, isInt_int, isInt_bl, isInt_str, isInt_non, isInt_tup, isInt_lst, isBl_int, isBl_bl, isBl_tup, isTup_int, isTup_bl, isTup_str, isTup_non, isTup_tup, isTup_lst, e_sub, e_add, e_addL, e_neg, e_cmp, e_ixL, e_ixT, e_ixS, e_abs, e_max, e_max4, e_min, e_intI, e_intB, e_lenL, e_lenT, e_lenS, e_isT1, e_isT2, e_isT3, e_isTL1, e_isTL2, e_resT1, e_resT2, shL, e_mp, e_mpN, e_mpF, k_mf, k_ck, ckL_1, ckS_1, e_revL, e_gRv, e_iR3, e_jR3, k_R3, isN_1, isN_2, e_callF, k_callF, k_cf, e_callG, k_callG, gIs_non, gIs_bl, gIs_int, gIs_str, gIs_tup, gIs_lst, gIs_scr, e_meth, e_mtO, k_isOb, e_mtC, k_okO, e_mk, k_mk, k_mkQ, e_mkE, k_mkE, k_mkR1, k_mkR2, k_fld, e_d3, e_d4, e_d5, k_var3, k_var4, k_var5, k_mv3, k_sd3, k_sd4, k_sd5, e_isOw, k_ow1, k_ow2, e_resOk, e_resL1, e_resL2, e_noBrL, e_isL1, e_isL2, e_isL3, e_isL4, e_isL5, e_isL6, e_isLL1, e_isLL2, k_fr3, k_fr4, k_fr5, e_dnK, e_dnT, e_dputT, e_dputK, e_isDt, e_isDk, k_isDt, k_isDk, e_dtK2, e_dpK, k_dtI, k_dkI, e_keyI, e_keyS, e_inK, e_dxK, e_inT, e_dxT, e_intL2, e_callB, e_clB, k_clB, k_rsB, e_outB1, e_outB2, e_dropO, k_dr, e_runG, k_rg1, k_rg2, k_rg3, e_methE, e_mtOE, e_mtE, List.getElem?_cons_zero, List.getElem?_cons_succ, List.getElem?_nil, List.set_cons_zero, List.set_cons_succ, List.length_cons, List.length_nil, List.map_cons, List.map_nil, List.nil_append, List.cons_append, List.replicate_succ, List.replicate_zero, List.all_nil, List.all_cons, List.contains_nil, List.contains_cons, Option.map_some, Option.map_none, Option.bind_some, Option.bind_none, Bool.and_true, Bool.true_and, Bool.and_false, Bool.false_and, Bool.or_true, Bool.true_or, Bool.or_false, Bool.false_or, Bool.not_true, Bool.not_false, Bool.not_not, Nat.zero_add, Nat.reduceAdd, Nat.reduceSub, Nat.reduceLT, Nat.reduceLeDiff, Nat.reduceEqDiff, reduceIte, if_true, if_false, atI_0, atI_1, atI_2, atI_3, gMul_ok, gMod_pos, gDiv_pos, true_and, and_true, and_self, Nat.reduceBEq, Nat.reduceBNe, beq_self_eq_true, decide_true, decide_false, not_false_iff, not_true, ne_eq, gt_iff_lt, ge_iff_le, Int.reduceEq, Int.reduceNe, Int.reduceLT, Int.reduceLE, Int.cast_ofNat_Int, Int.natCast_one, Int.natCast_zero, reduceCtorEq, Bool.false_eq_true, eq_self, Int.lt_irrefl]
    · have hp : (0 : Int) < (y : Int) := by omega
      have e := ih (x % y) (Nat.mod_lt _ hy) y
      have g : Nat.gcd y (x % y) = Nat.gcd x y := by rw [Nat.gcd_comm x y, Nat.gcd_rec y x, Nat.gcd_comm]
      rw [g] at e
      refine sWhile_step (ρ1 := [some (.sh (.int x)), some (.sh (.int y))]) ?_ ?_ e
      · unfold wc_law_common_1
        simp only [e_seq, k_seq1, k_seq2, k_seq3, k_seq4, k_seq5, e_ex, k_ex1, k_ex2, e_bnd, k_bn1, k_bn2, e_ret, e_nx, e_bk, e_ct, e_c, e_var, k_var1, k_var2, e_mv, k_mv1, k_mv2, e_pk, k_pk, e_get1, e_get2, k_sd1, k_sd2, e_gets1, e_gets2, k_gs, e_vals1, e_vals2, e_oOf, e_d1, e_d2, e_an, e_ac, e_op1, e_op2, e_bi, e_l1, k_l1, e_l2, k_l2, e_lA, k_lA, k_ok, e_tst, k_ts1, k_ts2, e_tand, e_tor, e_tnot, e_vand, e_vor, e_vnot, e_vif, e_iteT, e_iteF, e_tup, k_tp, e_lst, k_ls, e_is, e_call, e_callM, k_cl, k_rs, e_if, e_sret, e_sretN, e_drop, e_asg, k_nx, e_gN, e_gT, e_gLs1, e_gLs2, e_gsN, e_gsC, e_par, e_run, k_ru1, k_ru2, k_ru3, e_out1, e_out2, k_os, e_start, e_stl1, e_stl2, e_fro, e_isFr, k_fr1, k_fr2, e_ioOk1, e_ioOk2, k_ioOk, e_noBr, e_ios1, e_ios2, e_brs1, e_brs2, e_brs3, e_brs4, e_brs5, e_dec1, e_dec2, e_dec3, e_put1, k_put, e_put2, e_outOf1, e_outOf2, e_guard, e_setIx, e_stK, k_stI, e_mt, e_mtK, k_app, k_ext, k_rvs, k_pop, e_chain, e_for, e_forL1, k_turn1, k_turn2, k_turn3, k_turn4, k_turn5, e_R1, k_R1, e_R2, k_R2, e_iLs, k_it, e_iTp, k_tI, e_lsV, e_lsS, k_ls1, k_ls2, k_ls3, e_iZp, e_iEn, e_iRv, e_iSg, k_jSg, e_jZp, k_zp, e_jEn, e_jRev, e_sl, e_pNo, e_pIn, k_pn, e_slL, cut_1, isLst_lst, isLst_tup, isLst_int, e_eqI, e_neI, e_eqB, e_neB, gStr_ok, isInt_int, isInt_bl, isInt_str, isInt_non, isInt_tup, isInt_lst, isBl_int, isBl_bl, isBl_tup, isTup_int, isTup_bl, isTup_str, isTup_non, isTup_tup, isTup_lst, e_sub, e_add, e_addL, e_neg, e_cmp, e_ixL, e_ixT, e_ixS, e_abs, e_max, e_max4, e_min, e_intI, e_intB, e_lenL, e_lenT, e_lenS, e_isT1, e_isT2, e_isT3, e_isTL1, e_isTL2, e_resT1, e_resT2, shL, e_mp, e_mpN, e_mpF, k_mf, k_ck, ckL_1, ckS_1, e_revL, e_gRv, e_iR3, e_jR3, k_R3, isN_1, isN_2, e_callF, k_callF, k_cf, e_callG, k_callG, gIs_non, gIs_bl, gIs_int, gIs_str, gIs_tup, gIs_lst, gIs_scr, e_meth, e_mtO, k_isOb, e_mtC, k_okO, e_mk, k_mk, k_mkQ, e_mkE, k_mkE, k_mkR1, k_mkR2, k_fld, e_d3, e_d4, e_d5, k_var3, k_var4, k_var5, k_mv3, k_sd3, k_sd4, k_sd5, e_isOw, k_ow1, k_ow2, e_resOk, e_resL1, e_resL2, e_noBrL, e_isL1, e_isL2, e_isL3, e_isL4, e_isL5, e_isL6, e_isLL1, e_isLL2, k_fr3, k_fr4, k_fr5, e_dnK, e_dnT, e_dputT, e_dputK, e_isDt, e_isDk, k_isDt, k_isDk, e_dtK2, e_dpK, k_dtI, k_dkI, e_keyI, e_keyS, e_inK, e_dxK, e_inT, e_dxT, e_intL2, e_callB, e_clB, k_clB, k_rsB, e_outB1, e_outB2, e_dropO, k_dr, e_runG, k_rg1, k_rg2, k_rg3, e_methE, e_mtOE, e_mtE, List.getElem?_cons_zero, List.getElem?_cons_succ, List.getElem?_nil, List.set_cons_zero, List.set_cons_succ, List.length_cons, List.length_nil, List.map_cons, List.map_nil, List.nil_append, List.cons_append, List.replicate_succ, List.replicate_zero, List.all_nil, List.all_cons, List.contains_nil, List.contains_cons, Option.map_some, Option.map_none, Option.bind_some, Option.bind_none, Bool.and_true, Bool.true_and, Bool.and_false, Bool.false_and, Bool.or_true, Bool.true_or, Bool.or_false, Bool.false_or, Bool.not_true, Bool.not_false, Bool.not_not, Nat.zero_add, Nat.reduceAdd, Nat.reduceSub, Nat.reduceLT, Nat.reduceLeDiff, Nat.reduceEqDiff, reduceIte, if_true, if_false, atI_0, atI_1, atI_2, atI_3, gMul_ok, gMod_pos, gDiv_pos, true_and, and_true, and_self, Nat.reduceBEq, Nat.reduceBNe, beq_self_eq_true, decide_true, decide_false, not_false_iff, not_true, ne_eq, gt_iff_lt, ge_iff_le, Int.reduceEq, Int.reduceNe, Int.reduceLT, Int.reduceLE, Int.cast_ofNat_Int, Int.natCast_one, Int.natCast_zero, reduceCtorEq, Bool.false_eq_true, eq_self, hp]
      · unfold wb_law_common_1
        simp only [e_seq, k_seq1, k_seq2, k_seq3, k_seq4, k_seq5, e_ex, k_ex1, k_ex2, e_bnd, k_bn1, k_bn2, e_ret, e_nx, e_bk, e_ct, e_c, e_var, k_var1, k_var2, e_mv, k_mv1, k_mv2, e_pk, k_pk, e_get1, e_get2, k_sd1, k_sd2, e_gets1, e_gets2, k_gs, e_vals1, e_vals2, e_oOf, e_d1, e_d2, e_an, e_ac, e_op1, e_op2, e_bi, e_l1, k_l1, e_l2, k_l2, e_lA, k_lA, k_ok, e_tst, k_ts1, k_ts2, e_tand, e_tor, e_tnot, e_vand, e_vor, e_vnot, e_vif, e_iteT, e_iteF, e_tup, k_tp, e_lst, k_ls, e_is, e_call, e_callM, k_cl, k_rs, e_if, e_sret, e_sretN, e_drop, e_asg, k_nx, e_gN, e_gT, e_gLs1, e_gLs2, e_gsN, e_gsC, e_par, e_run, k_ru1, k_ru2, k_ru3, e_out1, e_out2, k_os, e_start, e_stl1, e_stl2, e_fro, e_isFr, k_fr1, k_fr2, e_ioOk1, e_ioOk2, k_ioOk, e_noBr, e_ios1, e_ios2, e_brs1, e_brs2, e_brs3, e_brs4, e_brs5, e_dec1, e_dec2, e_dec3, e_put1, k_put, e_put2, e_outOf1, e_outOf2, e_guard, e_setIx, e_stK, k_stI, e_mt, e_mtK, k_app, k_ext, k_rvs, k_pop, e_chain, e_for, e_forL1, k_turn1, k_turn2, k_turn3, k_turn4, k_turn5, e_R1, k_R1, e_R2, k_R2, e_iLs, k_it, e_iTp, k_tI, e_lsV, e_lsS, k_ls1, k_ls2, k_ls3, e_iZp, e_iEn, e_iRv, e_iSg, k_jSg, e_jZp, k_zp, e_jEn, e_jRev, e_sl, e_pNo, e_pIn, k_pn, e_slL, cut_1, isLst_lst, isLst_tup, isLst_int, e_eqI, e_neI, e_eqB, e_neB, gStr_ok, isInt_int, isInt_bl, isInt_str, isInt_non, isInt_tup, isInt_lst, isBl_int, isBl_bl, isBl_tup, isTup_int, isTup_bl, isTup_str, isTup_non, isTup_tup, isTup_lst, e_sub, e_add, e_addL, e_neg, e_cmp, e_ixL, e_ixT, e_ixS, e_abs, e_max, e_max4, e_min, e_intI, e_intB, e_lenL, e_lenT, e_lenS, e_isT1, e_isT2, e_isT3, e_isTL1, e_isTL2, e_resT1, e_resT2, shL, e_mp, e_mpN, e_mpF, k_mf, k_ck, ckL_1, ckS_1, e_revL, e_gRv, e_iR3, e_jR3, k_R3, isN_1, isN_2, e_callF, k_callF, k_cf, e_callG, k_callG, gIs_non, gIs_bl, gIs_int, gIs_str, gIs_tup, gIs_lst, gIs_scr, e_meth, e_mtO, k_isOb, e_mtC, k_okO, e_mk, k_mk, k_mkQ, e_mkE, k_mkE, k_mkR1, k_mkR2, k_fld, e_d3, e_d4, e_d5, k_var3, k_var4, k_var5, k_mv3, k_sd3, k_sd4, k_sd5, e_isOw, k_ow1, k_ow2, e_resOk, e_resL1, e_resL2, e_noBrL, e_isL1, e_isL2, e_isL3, e_isL4, e_isL5, e_isL6, e_isLL1, e_isLL2, k_fr3, k_fr4, k_fr5, e_dnK, e_dnT, e_dputT, e_dputK, e_isDt, e_isDk, k_isDt, k_isDk, e_dtK2, e_dpK, k_dtI, k_dkI, e_keyI, e_keyS, e_inK, e_dxK, e_inT, e_dxT, e_intL2, e_callB, e_clB, k_clB, k_rsB, e_outB1, e_outB2, e_dropO, k_dr, e_runG, k_rg1, k_rg2, k_rg3, e_methE, e_mtOE, e_mtE, List.getElem?_cons_zero, List.getElem?_cons_succ, List.getElem?_nil, List.set_cons_zero, List.set_cons_succ, List.length_cons, List.length_nil, List.map_cons, List.map_nil, List.nil_append, List.cons_append, List.replicate_succ, List.replicate_zero, List.all_nil, List.all_cons, List.contains_nil, List.contains_cons, Option.map_some, Option.map_none, Option.bind_some, Option.bind_none, Bool.and_true, Bool.true_and, Bool.and_false, Bool.false_and, Bool.or_true, Bool.true_or, Bool.or_false, Bool.false_or, Bool.not_true, Bool.not_false, Bool.not_not, Nat.zero_add, Nat.reduceAdd, Nat.reduceSub, Nat.reduceLT, Nat.reduceLeDiff, Nat.reduceEqDiff, reduceIte, if_true, if_false, atI_0, atI_1, atI_2, atI_3, gMul_ok, gMod_pos, gDiv_pos, true_and, and_true, and_self, Nat.reduceBEq, Nat.reduceBNe, beq_self_eq_true, decide_true, decide_false, not_false_iff, not_true, ne_eq, gt_iff_lt, ge_iff_le, Int.reduceEq, Int.reduceNe, Int.reduceLT, Int.reduceLE, Int.cast_ofNat_Int, Int.natCast_one, Int.natCast_zero, reduceCtorEq, Bool.false_eq_true, eq_self, hp, Int.natCast_emod]
theorem common_ok {a b : Int} : phi_law_common [.int a, .int b] = some (.ret (.sh (.int (Int.gcd a b : Nat))) []) := by
  have e := common_loop (x2 := []) b.natAbs a.natAbs
  unfold phi_law_common b_law_common
  simp only [e_seq, k_seq1, k_seq2, k_seq3, k_seq4, k_seq5, e_ex, k_ex1, k_ex2, e_bnd, k_bn1, k_bn2, e_ret, e_nx, e_bk, e_ct, e_c, e_var, k_var1, k_var2, e_mv, k_mv1, k_mv2, e_pk, k_pk, e_get1, e_get2, k_sd1, k_sd2, e_gets1, e_gets2, k_gs, e_vals1, e_vals2, e_oOf, e_d1, e_d2, e_an, e_ac, e_op1, e_op2, e_bi, e_l1, k_l1, e_l2, k_l2, e_lA, k_lA, k_ok, e_tst, k_ts1, k_ts2, e_tand, e_tor, e_tnot, e_vand, e_vor, e_vnot, e_vif, e_iteT, e_iteF, e_tup, k_tp, e_lst, k_ls, e_is, e_call, e_callM, k_cl, k_rs, e_if, e_sret, e_sretN, e_drop, e_asg, k_nx, e_gN, e_gT, e_gLs1, e_gLs2, e_gsN, e_gsC, e_par, e_run, k_ru1, k_ru2, k_ru3, e_out1, e_out2, k_os, e_start, e_stl1, e_stl2, e_fro, e_isFr, k_fr1, k_fr2, e_ioOk1, e_ioOk2, k_ioOk, e_noBr, e_ios1, e_ios2, e_brs1, e_brs2, e_brs3, e_brs4, e_brs5, e_dec1, e_dec2, e_dec3, e_put1, k_put, e_put2, e_outOf1, e_outOf2, e_guard, e_setIx, e_stK, k_stI, e_mt, e_mtK, k_app, k_ext, k_rvs, k_pop, e_chain, e_for, e_forL1, k_turn1, k_turn2, k_turn3, k_turn4, k_turn5, e_R1, k_R1, e_R2, k_R2, e_iLs, k_it, e_iTp, k_tI, e_lsV, e_lsS, k_ls1, k_ls2, k_ls3, e_iZp, e_iEn, e_iRv, e_iSg, k_jSg, e_jZp, k_zp, e_jEn, e_jRev, e_sl, e_pNo, e_pIn, k_pn, e_slL, cut_1, isLst_lst, isLst_tup, isLst_int, e_eqI, e_neI, e_eqB, e_neB, gStr_ok, isInt_int, isInt_bl, isInt_str, isInt_non, isInt_tup, isInt_lst, isBl_int, isBl_bl, isBl_tup, isTup_int, isTup_bl, isTup_str, isTup_non, isTup_tup, isTup_lst, e_sub, e_add, e_addL, e_neg, e_cmp, e_ixL, e_ixT, e_ixS, e_max, e_max4, e_min, e_intI, e_intB, e_lenL, e_lenT, e_lenS, e_isT1, e_isT2, e_isT3, e_isTL1, e_isTL2, e_resT1, e_resT2, shL, e_mp, e_mpN, e_mpF, k_mf, k_ck, ckL_1, ckS_1, e_revL, e_gRv, e_iR3, e_jR3, k_R3, isN_1, isN_2, e_callF, k_callF, k_cf, e_callG, k_callG, gIs_non, gIs_bl, gIs_int, gIs_str, gIs_tup, gIs_lst, gIs_scr, e_meth, e_mtO, k_isOb, e_mtC, k_okO, e_mk, k_mk, k_mkQ, e_mkE, k_mkE, k_mkR1, k_mkR2, k_fld, e_d3, e_d4, e_d5, k_var3, k_var4, k_var5, k_mv3, k_sd3, k_sd4, k_sd5, e_isOw, k_ow1, k_ow2, e_resOk, e_resL1, e_resL2, e_noBrL, e_isL1, e_isL2, e_isL3, e_isL4, e_isL5, e_isL6, e_isLL1, e_isLL2, k_fr3, k_fr4, k_fr5, e_dnK, e_dnT, e_dputT, e_dputK, e_isDt, e_isDk, k_isDt, k_isDk, e_dtK2, e_dpK, k_dtI, k_dkI, e_keyI, e_keyS, e_inK, e_dxK, e_inT, e_dxT, e_intL2, e_callB, e_clB, k_clB, k_rsB, e_outB1, e_outB2, e_dropO, k_dr, e_runG, k_rg1, k_rg2, k_rg3, e_methE, e_mtOE, e_mtE, List.getElem?_cons_zero, List.getElem?_cons_succ, List.getElem?_nil, List.set_cons_zero, List.set_cons_succ, List.length_cons, List.length_nil, List.map_cons, List.map_nil, List.nil_append, List.cons_append, List.replicate_succ, List.replicate_zero, List.all_nil, List.all_cons, List.contains_nil, List.contains_cons, Option.map_some, Option.map_none, Option.bind_some, Option.bind_none, Bool.and_true, Bool.true_and, Bool.and_false, Bool.false_and, Bool.or_true, Bool.true_or, Bool.or_false, Bool.false_or, Bool.not_true, Bool.not_false, Bool.not_not, Nat.zero_add, Nat.reduceAdd, Nat.reduceSub, Nat.reduceLT, Nat.reduceLeDiff, Nat.reduceEqDiff, reduceIte, if_true, if_false, atI_0, atI_1, atI_2, atI_3, gMul_ok, gMod_pos, gDiv_pos, true_and, and_true, and_self, Nat.reduceBEq, Nat.reduceBNe, beq_self_eq_true, decide_true, decide_false, not_false_iff, not_true, ne_eq, gt_iff_lt, ge_iff_le, Int.reduceEq, Int.reduceNe, Int.reduceLT, Int.reduceLE, Int.cast_ofNat_Int, Int.natCast_one, Int.natCast_zero, reduceCtorEq, Bool.false_eq_true, eq_self, iabs_eq, e]
  rfl
def Spt (p q : Int) : Prop := Int.gcd p q = 1 ∧ (0 < q ∨ (q = 0 ∧ 0 < p))
/-- a place in lowest terms -/
def SpR (o : Option CR) (t b : Int) : Prop := ∃ p q g, o = some (.ret (.sh (P2 p q)) []) ∧ Spt p q ∧ t = g * p ∧ b = g * q ∧ g ≠ 0
theorem mul_pos_r {g x : Int} (h : 0 < g) (h2 : 0 < g * x) : 0 < x := by
  refine Int.not_le.mp fun hx => ?_
  have e := Int.mul_le_mul_of_nonneg_left hx (Int.le_of_lt h)
  omega
theorem gcd_pos {t b : Int} (h : ¬ (t = 0 ∧ b = 0)) : 0 < Int.gcd t b := by
  refine Nat.pos_of_ne_zero fun e => h ?_
  exact Int.gcd_eq_zero_iff.mp e
theorem low_pos {t b : Int} (h : ¬ (t = 0 ∧ b = 0)) (hs : 0 < b ∨ (b = 0 ∧ 0 < t)) : ∃ p q, t / (Int.gcd t b : Nat) = p ∧ b / (Int.gcd t b : Nat) = q ∧ Spt p q ∧ t = (Int.gcd t b : Nat) * p ∧ b = (Int.gcd t b : Nat) * q := by
  have hg := gcd_pos h
  have hg2 : (0 : Int) < (Int.gcd t b : Nat) := by omega
  have e1 := Int.mul_ediv_cancel' (Int.gcd_dvd_left t b)
  have e2 := Int.mul_ediv_cancel' (Int.gcd_dvd_right t b)
  refine ⟨_, _, rfl, rfl, ⟨Int.gcd_ediv_gcd_ediv_gcd hg, ?_⟩, e1.symm, e2.symm⟩
  rcases hs with hs | ⟨hs, hs2⟩
  · exact .inl (mul_pos_r hg2 (by rw [e2]; exact hs))
  · refine .inr ⟨?_, mul_pos_r hg2 (by rw [e1]; exact hs2)⟩
    rw [hs, Int.zero_ediv]
theorem low_neg {t b : Int} (h : ¬ (t = 0 ∧ b = 0)) (hs : b < 0 ∨ (b = 0 ∧ t < 0)) : ∃ p q, (-t) / (-(0 - ((Int.gcd t b : Nat) : Int))) = p ∧ (-b) / (-(0 - ((Int.gcd t b : Nat) : Int))) = q ∧ Spt p q ∧ t = (-(Int.gcd t b : Nat)) * p ∧ b = (-(Int.gcd t b : Nat)) * q := by
  have h2 : ¬ (-t = 0 ∧ -b = 0) := by omega
  obtain ⟨p, q, e1, e2, s, e3, e4⟩ := low_pos h2 (by omega)
  rw [Int.gcd_neg, Int.neg_gcd] at e1 e2 e3 e4
  have z : -(0 - ((Int.gcd t b : Nat) : Int)) = ((Int.gcd t b : Nat) : Int) := by omega
  rw [z]
  exact ⟨p, q, e1, e2, s, by rw [Int.neg_mul]; omega, by rw [Int.neg_mul]; omega⟩
theorem gcd_le {t b : Int} (h : ¬ (t = 0 ∧ b = 0)) {k : Nat} (ht : Bd k t) (hb : Bd k b) : Int.gcd t b < 2 ^ k := by
  by_cases h0 : t = 0
  · have h1 : 0 < b.natAbs := by omega
    exact Nat.lt_of_le_of_lt (Nat.gcd_le_right _ h1) hb
  · have h1 : 0 < t.natAbs := by omega
    exact Nat.lt_of_le_of_lt (Nat.gcd_le_left _ h1) ht
theorem short_ok {t b : Int} {k : Nat} (h : ¬ (t = 0 ∧ b = 0)) (ht : Bd k t) (hb : Bd k b) (hk : k ≤ 8000) : SpR (phi_law_place [.int t, .int b]) t b := by
  have hg := gcd_pos h
  have g0 : (0 : Int) < (Int.gcd t b : Nat) := by omega
  have gn : ¬ ((Int.gcd t b : Nat) : Int) = 0 := by omega
  have g1 : 0 - ((Int.gcd t b : Nat) : Int) < 0 := by omega
  have hl0 : Int.gcd t b < 2 ^ 8000 := Nat.lt_of_lt_of_le (gcd_le h ht hb) (pw_le hk)
  have hl : (((Int.gcd t b : Nat) : Int)).natAbs.log2 < 9000 := log_9000 (k := 8000) (by rw [Int.natAbs_natCast]; exact hl0) (by decide) (by decide)
  have hl2 : ((0 - ((Int.gcd t b : Nat) : Int))).natAbs.log2 < 9000 := log_9000 (k := 8000) (by rw [Int.zero_sub, Int.natAbs_neg, Int.natAbs_natCast]; exact hl0) (by decide) (by decide)
  rcases Int.lt_trichotomy b 0 with hs | hs | hs
  · obtain ⟨p, q, e1, e2, s, e3, e4⟩ := low_neg h (.inl hs)
    refine ⟨p, q, _, ?_, s, e3, e4, by omega⟩
    unfold phi_law_place b_law_place
    simp only [e_seq, k_seq1, k_seq2, k_seq3, k_seq4, k_seq5, e_ex, k_ex1, k_ex2, e_bnd, k_bn1, k_bn2, e_ret, e_nx, e_bk, e_ct, e_c, e_var, k_var1, k_var2, e_mv, k_mv1, k_mv2, e_pk, k_pk, e_get1, e_get2, k_sd1, k_sd2, e_gets1, e_gets2, k_gs, e_vals1, e_vals2, e_oOf, e_d1, e_d2, e_an, e_ac, e_op1, e_op2, e_bi, e_l1, k_l1, e_l2, k_l2, e_lA, k_lA, k_ok, e_tst, k_ts1, k_ts2, e_tand, e_tor, e_tnot, e_vand, e_vor, e_vnot, e_vif, e_iteT, e_iteF, e_tup, k_tp, e_lst, k_ls, e_is, e_call, e_callM, k_cl, k_rs, e_if, e_sret, e_sretN, e_drop, e_asg, k_nx, e_gN, e_gT, e_gLs1, e_gLs2, e_gsN, e_gsC, e_par, e_run, k_ru1, k_ru2, k_ru3, e_out1, e_out2, k_os, e_start, e_stl1, e_stl2, e_fro, e_isFr, k_fr1, k_fr2, e_ioOk1, e_ioOk2, k_ioOk, e_noBr, e_ios1, e_ios2, e_brs1, e_brs2, e_brs3, e_brs4, e_brs5, e_dec1, e_dec2, e_dec3, e_put1, k_put, e_put2, e_outOf1, e_outOf2, e_guard, e_setIx, e_stK, k_stI, e_mt, e_mtK, k_app, k_ext, k_rvs, k_pop, e_chain, e_for, e_forL1, k_turn1, k_turn2, k_turn3, k_turn4, k_turn5, e_R1, k_R1, e_R2, k_R2, e_iLs, k_it, e_iTp, k_tI, e_lsV, e_lsS, k_ls1, k_ls2, k_ls3, e_iZp, e_iEn, e_iRv, e_iSg, k_jSg, e_jZp, k_zp, e_jEn, e_jRev, e_sl, e_pNo, e_pIn, k_pn, e_slL, cut_1, isLst_lst, isLst_tup, isLst_int, e_eqI, e_neI, e_eqB, e_neB, gStr_ok, isInt_int, isInt_bl, isInt_str, isInt_non, isInt_tup, isInt_lst, isBl_int, isBl_bl, isBl_tup, isTup_int, isTup_bl, isTup_str, isTup_non, isTup_tup, isTup_lst, e_sub, e_add, e_addL, e_neg, e_cmp, e_ixL, e_ixT, e_ixS, e_abs, e_max, e_max4, e_min, e_intI, e_intB, e_lenL, e_lenT, e_lenS, e_isT1, e_isT2, e_isT3, e_isTL1, e_isTL2, e_resT1, e_resT2, shL, e_mp, e_mpN, e_mpF, k_mf, k_ck, ckL_1, ckS_1, e_revL, e_gRv, e_iR3, e_jR3, k_R3, isN_1, isN_2, e_callF, k_callF, k_cf, e_callG, k_callG, gIs_non, gIs_bl, gIs_int, gIs_str, gIs_tup, gIs_lst, gIs_scr, e_meth, e_mtO, k_isOb, e_mtC, k_okO, e_mk, k_mk, k_mkQ, e_mkE, k_mkE, k_mkR1, k_mkR2, k_fld, e_d3, e_d4, e_d5, k_var3, k_var4, k_var5, k_mv3, k_sd3, k_sd4, k_sd5, e_isOw, k_ow1, k_ow2, e_resOk, e_resL1, e_resL2, e_noBrL, e_isL1, e_isL2, e_isL3, e_isL4, e_isL5, e_isL6, e_isLL1, e_isLL2, k_fr3, k_fr4, k_fr5, e_dnK, e_dnT, e_dputT, e_dputK, e_isDt, e_isDk, k_isDt, k_isDk, e_dtK2, e_dpK, k_dtI, k_dkI, e_keyI, e_keyS, e_inK, e_dxK, e_inT, e_dxT, e_intL2, e_callB, e_clB, k_clB, k_rsB, e_outB1, e_outB2, e_dropO, k_dr, e_runG, k_rg1, k_rg2, k_rg3, e_methE, e_mtOE, e_mtE, List.getElem?_cons_zero, List.getElem?_cons_succ, List.getElem?_nil, List.set_cons_zero, List.set_cons_succ, List.length_cons, List.length_nil, List.map_cons, List.map_nil, List.nil_append, List.cons_append, List.replicate_succ, List.replicate_zero, List.all_nil, List.all_cons, List.contains_nil, List.contains_cons, Option.map_some, Option.map_none, Option.bind_some, Option.bind_none, Bool.and_true, Bool.true_and, Bool.and_false, Bool.false_and, Bool.or_true, Bool.true_or, Bool.or_false, Bool.false_or, Bool.not_true, Bool.not_false, Bool.not_not, Nat.zero_add, Nat.reduceAdd, Nat.reduceSub, Nat.reduceLT, Nat.reduceLeDiff, Nat.reduceEqDiff, reduceIte, if_true, if_false, atI_0, atI_1, atI_2, atI_3, gMul_ok, gMod_pos, gDiv_pos, true_and, and_true, and_self, Nat.reduceBEq, Nat.reduceBNe, beq_self_eq_true, decide_true, decide_false, not_false_iff, not_true, ne_eq, gt_iff_lt, ge_iff_le, Int.reduceEq, Int.reduceNe, Int.reduceLT, Int.reduceLE, Int.cast_ofNat_Int, Int.natCast_one, Int.natCast_zero, reduceCtorEq, Bool.false_eq_true, eq_self, common_ok, hs, gDiv_neg, g1, hl2, e1, e2]
  · have ht0 : t ≠ 0 := fun e => h ⟨e, hs⟩
    have n1 : ¬ (b < 0) := by omega
    rcases Int.lt_or_gt_of_ne ht0 with hn | hp
    · obtain ⟨p, q, e1, e2, s, e3, e4⟩ := low_neg h (.inr ⟨hs, hn⟩)
      refine ⟨p, q, _, ?_, s, e3, e4, by omega⟩
      have hs' : decide (b = 0) = true := decide_eq_true hs
      unfold phi_law_place b_law_place
      simp only [e_seq, k_seq1, k_seq2, k_seq3, k_seq4, k_seq5, e_ex, k_ex1, k_ex2, e_bnd, k_bn1, k_bn2, e_ret, e_nx, e_bk, e_ct, e_c, e_var, k_var1, k_var2, e_mv, k_mv1, k_mv2, e_pk, k_pk, e_get1, e_get2, k_sd1, k_sd2, e_gets1, e_gets2, k_gs, e_vals1, e_vals2, e_oOf, e_d1, e_d2, e_an, e_ac, e_op1, e_op2, e_bi, e_l1, k_l1, e_l2, k_l2, e_lA, k_lA, k_ok, e_tst, k_ts1, k_ts2, e_tand, e_tor, e_tnot, e_vand, e_vor, e_vnot, e_vif, e_iteT, e_iteF, e_tup, k_tp, e_lst, k_ls, e_is, e_call, e_callM, k_cl, k_rs, e_if, e_sret, e_sretN, e_drop, e_asg, k_nx, e_gN, e_gT, e_gLs1, e_gLs2, e_gsN, e_gsC, e_par, e_run, k_ru1, k_ru2, k_ru3, e_out1, e_out2, k_os, e_start, e_stl1, e_stl2, e_fro, e_isFr, k_fr1, k_fr2, e_ioOk1, e_ioOk2, k_ioOk, e_noBr, e_ios1, e_ios2, e_brs1, e_brs2, e_brs3, e_brs4, e_brs5, e_dec1, e_dec2, e_dec3, e_put1, k_put, e_put2, e_outOf1, e_outOf2, e_guard, e_setIx, e_stK, k_stI, e_mt, e_mtK, k_app, k_ext, k_rvs, k_pop, e_chain, e_for, e_forL1, k_turn1, k_turn2, k_turn3, k_turn4, k_turn5, e_R1, k_R1, e_R2, k_R2, e_iLs, k_it, e_iTp, k_tI, e_lsV, e_lsS, k_ls1, k_ls2, k_ls3, e_iZp, e_iEn, e_iRv, e_iSg, k_jSg, e_jZp, k_zp, e_jEn, e_jRev, e_sl, e_pNo, e_pIn, k_pn, e_slL, cut_1, isLst_lst, isLst_tup, isLst_int, e_eqI, e_neI, e_eqB, e_neB, gStr_ok, isInt_int, isInt_bl, isInt_str, isInt_non, isInt_tup, isInt_lst, isBl_int, isBl_bl, isBl_tup, isTup_int, isTup_bl, isTup_str, isTup_non, isTup_tup, isTup_lst, e_sub, e_add, e_addL, e_neg, e_cmp, e_ixL, e_ixT, e_ixS, e_abs, e_max, e_max4, e_min, e_intI, e_intB, e_lenL, e_lenT, e_lenS, e_isT1, e_isT2, e_isT3, e_isTL1, e_isTL2, e_resT1, e_resT2, shL, e_mp, e_mpN, e_mpF, k_mf, k_ck, ckL_1, ckS_1, e_revL, e_gRv, e_iR3, e_jR3, k_R3, isN_1, isN_2, e_callF, k_callF, k_cf, e_callG, k_callG, gIs_non, gIs_bl, gIs_int, gIs_str, gIs_tup, gIs_lst, gIs_scr, e_meth, e_mtO, k_isOb, e_mtC, k_okO, e_mk, k_mk, k_mkQ, e_mkE, k_mkE, k_mkR1, k_mkR2, k_fld, e_d3, e_d4, e_d5, k_var3, k_var4, k_var5, k_mv3, k_sd3, k_sd4, k_sd5, e_isOw, k_ow1, k_ow2, e_resOk, e_resL1, e_resL2, e_noBrL, e_isL1, e_isL2, e_isL3, e_isL4, e_isL5, e_isL6, e_isLL1, e_isLL2, k_fr3, k_fr4, k_fr5, e_dnK, e_dnT, e_dputT, e_dputK, e_isDt, e_isDk, k_isDt, k_isDk, e_dtK2, e_dpK, k_dtI, k_dkI, e_keyI, e_keyS, e_inK, e_dxK, e_inT, e_dxT, e_intL2, e_callB, e_clB, k_clB, k_rsB, e_outB1, e_outB2, e_dropO, k_dr, e_runG, k_rg1, k_rg2, k_rg3, e_methE, e_mtOE, e_mtE, List.getElem?_cons_zero, List.getElem?_cons_succ, List.getElem?_nil, List.set_cons_zero, List.set_cons_succ, List.length_cons, List.length_nil, List.map_cons, List.map_nil, List.nil_append, List.cons_append, List.replicate_succ, List.replicate_zero, List.all_nil, List.all_cons, List.contains_nil, List.contains_cons, Option.map_some, Option.map_none, Option.bind_some, Option.bind_none, Bool.and_true, Bool.true_and, Bool.and_false, Bool.false_and, Bool.or_true, Bool.true_or, Bool.or_false, Bool.false_or, Bool.not_true, Bool.not_false, Bool.not_not, Nat.zero_add, Nat.reduceAdd, Nat.reduceSub, Nat.reduceLT, Nat.reduceLeDiff, Nat.reduceEqDiff, reduceIte, if_true, if_false, atI_0, atI_1, atI_2, atI_3, gMul_ok, gMod_pos, gDiv_pos, true_and, and_true, and_self, Nat.reduceBEq, Nat.reduceBNe, beq_self_eq_true, decide_true, decide_false, not_false_iff, not_true, ne_eq, gt_iff_lt, ge_iff_le, Int.reduceEq, Int.reduceNe, Int.reduceLT, Int.reduceLE, Int.cast_ofNat_Int, Int.natCast_one, Int.natCast_zero, reduceCtorEq, Bool.false_eq_true, eq_self, common_ok, n1, hs', hn, gDiv_neg, g1, hl2, e1, e2]
    · obtain ⟨p, q, e1, e2, s, e3, e4⟩ := low_pos h (.inr ⟨hs, hp⟩)
      refine ⟨p, q, _, ?_, s, e3, e4, by omega⟩
      have n2 : ¬ (t < 0) := by omega
      have hs' : decide (b = 0) = true := decide_eq_true hs
      unfold phi_law_place b_law_place
      simp only [e_seq, k_seq1, k_seq2, k_seq3, k_seq4, k_seq5, e_ex, k_ex1, k_ex2, e_bnd, k_bn1, k_bn2, e_ret, e_nx, e_bk, e_ct, e_c, e_var, k_var1, k_var2, e_mv, k_mv1, k_mv2, e_pk, k_pk, e_get1, e_get2, k_sd1, k_sd2, e_gets1, e_gets2, k_gs, e_vals1, e_vals2, e_oOf, e_d1, e_d2, e_an, e_ac, e_op1, e_op2, e_bi, e_l1, k_l1, e_l2, k_l2, e_lA, k_lA, k_ok, e_tst, k_ts1, k_ts2, e_tand, e_tor, e_tnot, e_vand, e_vor, e_vnot, e_vif, e_iteT, e_iteF, e_tup, k_tp, e_lst, k_ls, e_is, e_call, e_callM, k_cl, k_rs, e_if, e_sret, e_sretN, e_drop, e_asg, k_nx, e_gN, e_gT, e_gLs1, e_gLs2, e_gsN, e_gsC, e_par, e_run, k_ru1, k_ru2, k_ru3, e_out1, e_out2, k_os, e_start, e_stl1, e_stl2, e_fro, e_isFr, k_fr1, k_fr2, e_ioOk1, e_ioOk2, k_ioOk, e_noBr, e_ios1, e_ios2, e_brs1, e_brs2, e_brs3, e_brs4, e_brs5, e_dec1, e_dec2, e_dec3, e_put1, k_put, e_put2, e_outOf1, e_outOf2, e_guard, e_setIx, e_stK, k_stI, e_mt, e_mtK, k_app, k_ext, k_rvs, k_pop, e_chain, e_for, e_forL1, k_turn1, k_turn2, k_turn3, k_turn4, k_turn5, e_R1, k_R1, e_R2, k_R2, e_iLs, k_it, e_iTp, k_tI, e_lsV, e_lsS, k_ls1, k_ls2, k_ls3, e_iZp, e_iEn, e_iRv, e_iSg, k_jSg, e_jZp, k_zp, e_jEn, e_jRev, e_sl, e_pNo, e_pIn, k_pn, e_slL, cut_1, isLst_lst, isLst_tup, isLst_int, e_eqI, e_neI, e_eqB, e_neB, gStr_ok, isInt_int, isInt_bl, isInt_str, isInt_non, isInt_tup, isInt_lst, isBl_int, isBl_bl, isBl_tup, isTup_int, isTup_bl, isTup_str, isTup_non, isTup_tup, isTup_lst, e_sub, e_add, e_addL, e_neg, e_cmp, e_ixL, e_ixT, e_ixS, e_abs, e_max, e_max4, e_min, e_intI, e_intB, e_lenL, e_lenT, e_lenS, e_isT1, e_isT2, e_isT3, e_isTL1, e_isTL2, e_resT1, e_resT2, shL, e_mp, e_mpN, e_mpF, k_mf, k_ck, ckL_1, ckS_1, e_revL, e_gRv, e_iR3, e_jR3, k_R3, isN_1, isN_2, e_callF, k_callF, k_cf, e_callG, k_callG, gIs_non, gIs_bl, gIs_int, gIs_str, gIs_tup, gIs_lst, gIs_scr, e_meth, e_mtO, k_isOb, e_mtC, k_okO, e_mk, k_mk, k_mkQ, e_mkE, k_mkE, k_mkR1, k_mkR2, k_fld, e_d3, e_d4, e_d5, k_var3, k_var4, k_var5, k_mv3, k_sd3, k_sd4, k_sd5, e_isOw, k_ow1, k_ow2, e_resOk, e_resL1, e_resL2, e_noBrL, e_isL1, e_isL2, e_isL3, e_isL4, e_isL5, e_isL6, e_isLL1, e_isLL2, k_fr3, k_fr4, k_fr5, e_dnK, e_dnT, e_dputT, e_dputK, e_isDt, e_isDk, k_isDt, k_isDk, e_dtK2, e_dpK, k_dtI, k_dkI, e_keyI, e_keyS, e_inK, e_dxK, e_inT, e_dxT, e_intL2, e_callB, e_clB, k_clB, k_rsB, e_outB1, e_outB2, e_dropO, k_dr, e_runG, k_rg1, k_rg2, k_rg3, e_methE, e_mtOE, e_mtE, List.getElem?_cons_zero, List.getElem?_cons_succ, List.getElem?_nil, List.set_cons_zero, List.set_cons_succ, List.length_cons, List.length_nil, List.map_cons, List.map_nil, List.nil_append, List.cons_append, List.replicate_succ, List.replicate_zero, List.all_nil, List.all_cons, List.contains_nil, List.contains_cons, Option.map_some, Option.map_none, Option.bind_some, Option.bind_none, Bool.and_true, Bool.true_and, Bool.and_false, Bool.false_and, Bool.or_true, Bool.true_or, Bool.or_false, Bool.false_or, Bool.not_true, Bool.not_false, Bool.not_not, Nat.zero_add, Nat.reduceAdd, Nat.reduceSub, Nat.reduceLT, Nat.reduceLeDiff, Nat.reduceEqDiff, reduceIte, if_true, if_false, atI_0, atI_1, atI_2, atI_3, gMul_ok, gMod_pos, gDiv_pos, true_and, and_true, and_self, Nat.reduceBEq, Nat.reduceBNe, beq_self_eq_true, decide_true, decide_false, not_false_iff, not_true, ne_eq, gt_iff_lt, ge_iff_le, Int.reduceEq, Int.reduceNe, Int.reduceLT, Int.reduceLE, Int.cast_ofNat_Int, Int.natCast_one, Int.natCast_zero, reduceCtorEq, Bool.false_eq_true, eq_self, common_ok, n1, hs', n2, g0, hl, e1, e2]
  · obtain ⟨p, q, e1, e2, s, e3, e4⟩ := low_pos h (.inl hs)
    refine ⟨p, q, _, ?_, s, e3, e4, by omega⟩
    have n1 : ¬ (b < 0) := by omega
    have n3 : ¬ (b = 0) := by omega
    unfold phi_law_place b_law_place
    simp only [e_seq, k_seq1, k_seq2, k_seq3, k_seq4, k_seq5, e_ex, k_ex1, k_ex2, e_bnd, k_bn1, k_bn2, e_ret, e_nx, e_bk, e_ct, e_c, e_var, k_var1, k_var2, e_mv, k_mv1, k_mv2, e_pk, k_pk, e_get1, e_get2, k_sd1, k_sd2, e_gets1, e_gets2, k_gs, e_vals1, e_vals2, e_oOf, e_d1, e_d2, e_an, e_ac, e_op1, e_op2, e_bi, e_l1, k_l1, e_l2, k_l2, e_lA, k_lA, k_ok, e_tst, k_ts1, k_ts2, e_tand, e_tor, e_tnot, e_vand, e_vor, e_vnot, e_vif, e_iteT, e_iteF, e_tup, k_tp, e_lst, k_ls, e_is, e_call, e_callM, k_cl, k_rs, e_if, e_sret, e_sretN, e_drop, e_asg, k_nx, e_gN, e_gT, e_gLs1, e_gLs2, e_gsN, e_gsC, e_par, e_run, k_ru1, k_ru2, k_ru3, e_out1, e_out2, k_os, e_start, e_stl1, e_stl2, e_fro, e_isFr, k_fr1, k_fr2, e_ioOk1, e_ioOk2, k_ioOk, e_noBr, e_ios1, e_ios2, e_brs1, e_brs2, e_brs3, e_brs4, e_brs5, e_dec1, e_dec2, e_dec3, e_put1, k_put, e_put2, e_outOf1, e_outOf2, e_guard, e_setIx, e_stK, k_stI, e_mt, e_mtK, k_app, k_ext, k_rvs, k_pop, e_chain, e_for, e_forL1, k_turn1, k_turn2, k_turn3, k_turn4, k_turn5, e_R1, k_R1, e_R2, k_R2, e_iLs, k_it, e_iTp, k_tI, e_lsV, e_lsS, k_ls1, k_ls2, k_ls3, e_iZp, e_iEn, e_iRv, e_iSg, k_jSg, e_jZp, k_zp, e_jEn, e_jRev, e_sl, e_pNo, e_pIn, k_pn, e_slL, cut_1, isLst_lst, isLst_tup, isLst_int, e_eqI, e_neI, e_eqB, e_neB, gStr_ok, isInt_int, isInt_bl, isInt_str, isInt_non, isInt_tup, isInt_lst, isBl_int, isBl_bl, isBl_tup, isTup_int, isTup_bl, isTup_str, isTup_non, isTup_tup, isTup_lst, e_sub, e_add, e_addL, e_neg, e_cmp, e_ixL, e_ixT, e_ixS, e_abs, e_max, e_max4, e_min, e_intI, e_intB, e_lenL, e_lenT, e_lenS, e_isT1, e_isT2, e_isT3, e_isTL1, e_isTL2, e_resT1, e_resT2, shL, e_mp, e_mpN, e_mpF, k_mf, k_ck, ckL_1, ckS_1, e_revL, e_gRv, e_iR3, e_jR3, k_R3, isN_1, isN_2, e_callF, k_callF, k_cf, e_callG, k_callG, gIs_non, gIs_bl, gIs_int, gIs_str, gIs_tup, gIs_lst, gIs_scr, e_meth, e_mtO, k_isOb, e_mtC, k_okO, e_mk, k_mk, k_mkQ, e_mkE, k_mkE, k_mkR1, k_mkR2, k_fld, e_d3, e_d4, e_d5, k_var3, k_var4, k_var5, k_mv3, k_sd3, k_sd4, k_sd5, e_isOw, k_ow1, k_ow2, e_resOk, e_resL1, e_resL2, e_noBrL, e_isL1, e_isL2, e_isL3, e_isL4, e_isL5, e_isL6, e_isLL1, e_isLL2, k_fr3, k_fr4, k_fr5, e_dnK, e_dnT, e_dputT, e_dputK, e_isDt, e_isDk, k_isDt, k_isDk, e_dtK2, e_dpK, k_dtI, k_dkI, e_keyI, e_keyS, e_inK, e_dxK, e_inT, e_dxT, e_intL2, e_callB, e_clB, k_clB, k_rsB, e_outB1, e_outB2, e_dropO, k_dr, e_runG, k_rg1, k_rg2, k_rg3, e_methE, e_mtOE, e_mtE, List.getElem?_cons_zero, List.getElem?_cons_succ, List.getElem?_nil, List.set_cons_zero, List.set_cons_succ, List.length_cons, List.length_nil, List.map_cons, List.map_nil, List.nil_append, List.cons_append, List.replicate_succ, List.replicate_zero, List.all_nil, List.all_cons, List.contains_nil, List.contains_cons, Option.map_some, Option.map_none, Option.bind_some, Option.bind_none, Bool.and_true, Bool.true_and, Bool.and_false, Bool.false_and, Bool.or_true, Bool.true_or, Bool.or_false, Bool.false_or, Bool.not_true, Bool.not_false, Bool.not_not, Nat.zero_add, Nat.reduceAdd, Nat.reduceSub, Nat.reduceLT, Nat.reduceLeDiff, Nat.reduceEqDiff, reduceIte, if_true, if_false, atI_0, atI_1, atI_2, atI_3, gMul_ok, gMod_pos, gDiv_pos, true_and, and_true, and_self, Nat.reduceBEq, Nat.reduceBNe, beq_self_eq_true, decide_true, decide_false, not_false_iff, not_true, ne_eq, gt_iff_lt, ge_iff_le, Int.reduceEq, Int.reduceNe, Int.reduceLT, Int.reduceLE, Int.cast_ofNat_Int, Int.natCast_one, Int.natCast_zero, reduceCtorEq, Bool.false_eq_true, eq_self, common_ok, n1, n3, g0, hl, e1, e2]
theorem dvd_q {p q p' q' : Int} (s : Spt p q) (e : p * q' = q * p') : q.natAbs ∣ q'.natAbs := by
  have c : Nat.Coprime q.natAbs p.natAbs := by
    show Nat.gcd q.natAbs p.natAbs = 1
    rw [Nat.gcd_comm]
    exact s.1
  refine c.dvd_of_dvd_mul_left (m := p.natAbs) ?_
  rw [← Int.natAbs_mul, e, Int.natAbs_mul]
  exact Nat.dvd_mul_right _ _
theorem spt_one {p : Int} (h : Int.gcd p 0 = 1) (hp : 0 < p) : p = 1 := by
  have e : p.natAbs = 1 := by
    have e := h
    rw [Int.gcd_zero] at e
    exact e
  omega
/-- lowest terms are one -/
theorem spt_uniq {p q p' q' : Int} (s : Spt p q) (s' : Spt p' q') (e : p * q' = q * p') : p = p' ∧ q = q' := by
  have d1 := dvd_q s e
  have d2 := dvd_q s' (p' := p) (q' := q) (by rw [Int.mul_comm, ← e, Int.mul_comm])
  have hq := Nat.dvd_antisymm d1 d2
  have hq2 : q = q' := by
    have := s.2
    have := s'.2
    omega
  subst hq2
  refine ⟨?_, rfl⟩
  rcases s.2 with hp | ⟨h0, hp⟩
  · refine Int.eq_of_mul_eq_mul_right (a := q) (by omega) ?_
    rw [e, Int.mul_comm]
  · subst h0
    rw [spt_one s.1 hp]
    rcases s'.2 with h | ⟨_, hp'⟩
    · omega
    · rw [spt_one s'.1 hp']
theorem Spt.ne {p q : Int} (s : Spt p q) : ¬ (p = 0 ∧ q = 0) := by
  have := s.2
  omega
/-- lowest terms of two proportional pairs -/
theorem SpR.same {o : Option CR} {t b p q : Int} (r : SpR o t b) (s : Spt p q) (e : t * q = b * p) : o = some (.ret (.sh (P2 p q)) []) := by
  obtain ⟨p1, q1, g, e0, s1, e1, e2, hg⟩ := r
  have e3 : g * (p1 * q) = g * (q1 * p) := by
    rw [e1, e2] at e
    rw [← Int.mul_assoc, ← Int.mul_assoc]
    exact e
  obtain ⟨rfl, rfl⟩ := spt_uniq s1 s (Int.eq_of_mul_eq_mul_left hg e3)
  exact e0
theorem common_ok' {a b : Int} : phi_common [.int a, .int b] = some (.ret (.sh (.int (Int.gcd a b : Nat))) []) := common_ok
/-! the number of a cell -/
theorem pw {x : Int} {n : Nat} (h : PowOk 10 (n : Int)) (e : (10 : Int) ^ n = x) : gPow (.int 10) (.int (n : Int)) = some (.sh (.int x)) := by
  show (if PowOk 10 (n : Int) then some (SV.sh (.int ((10 : Int) ^ ((n : Nat) : Int).toNat))) else none) = _
  rw [if_pos h, Int.toNat_natCast, e]
theorem pow18 : gPow (.int 10) (.int 18) = some (.sh (.int 1000000000000000000)) := pw (n := 18) (by decide) (by decide)
theorem pow37 : gPow (.int 10) (.int 37) = some (.sh (.int 10000000000000000000000000000000000000)) := pw (n := 37) (by decide) (by decide)
theorem pow17 : gPow (.int 10) (.int 17) = some (.sh (.int 100000000000000000)) := pw (n := 17) (by decide) (by decide)
theorem pow40 : gPow (.int 10) (.int 40) = some (.sh (.int 10000000000000000000000000000000000000000)) := pw (n := 40) (by decide) (by decide)
theorem cell_ok {ns : List Int} {k : Nat} : ∃ x, phi_law_cell_at [.scr ns, .int (k : Int)] = some (.ret (.sh (.int x)) []) := by
  by_cases h : k < ns.length
  · refine ⟨ns[k], ?_⟩
    have hx : gIx (.scr ns) (.int (k : Int)) = some (.sh (.int ns[k])) := by
      show (atI ns (k : Int)).map (fun i => SV.sh (.int i)) = _
      rw [atI_nat (List.getElem?_eq_getElem h)]
      rfl
    have c : decide ((k : Int) < (ns.length : Int)) = true := decide_eq_true (by omega)
    unfold phi_law_cell_at b_law_cell_at
    simp_arith only [c, hx]
  · refine ⟨0, ?_⟩
    have c : decide ((k : Int) < (ns.length : Int)) = false := decide_eq_false (by omega)
    unfold phi_law_cell_at b_law_cell_at
    simp_arith only [c]
theorem number_nn {ns : List Int} {k : Nat} (hk : k < 1000) : ∃ x, 0 ≤ x ∧ phi_law_number [.scr ns, .int (k : Int)] = some (.ret (.sh (.int x)) []) := by
  obtain ⟨x, e⟩ := @cell_ok ns k
  by_cases h : (1000000000000000000 : Int) ≤ x
  · refine ⟨x, by omega, ?_⟩
    unfold phi_law_number b_law_number
    simp_arith only [e, pow18, decide_eq_true h]
  · have m1 : Sim.MulOk (k : Int) (k : Int) := mulOk_l (by omega) (by omega)
    have m2 : ∀ i, Sim.MulOk 1442695040888963407 i := fun i => mulOk_l (by decide) (by decide)
    have m3 : ∀ i, Sim.MulOk i 6364136223846793005 := fun i => mulOk_r (by decide) (by decide)
    generalize hy : (x + 1442695040888963407 * ((k : Int) * (k : Int) + (k : Int) + 1)) * 6364136223846793005 % 10000000000000000000000000000000000000 = y
    have y0 : 0 ≤ y := by rw [← hy]; exact Int.emod_nonneg _ (by decide)
    have y1 : y < 10000000000000000000000000000000000000 := by rw [← hy]; exact Int.emod_lt_of_pos _ (by decide)
    have m4 : Sim.MulOk y y := mulOk_big (k := 130) (m := 130) (by omega) (by omega) (by decide) (by decide) (by decide)
    have p1 : (0 : Int) < 10000000000000000000000000000000000000 := by decide
    have p2 : (0 : Int) < 10000000000000000000000000000000000000000 := by decide
    have dv : gDiv (.int (y * y)) (.int 100000000000000000) = some (.sh (.int (y * y / 100000000000000000))) := gDiv_pos (by decide) (log_9000 (k := 70) (by decide) (by decide) (by decide))
    refine ⟨y * y / 100000000000000000 % 10000000000000000000000000000000000000000, Int.emod_nonneg _ (by decide), ?_⟩
    unfold phi_law_number b_law_number
    simp_arith only [e, pow18, pow37, pow17, pow40, decide_eq_false h, m1, m2, m3, p1, p2, hy, m4, dv]
/-! texts: signs, numbers as they are written -/
open TL
open PySem.NumText (AllDigits digitsVal)
def tS (l : List Nat) : Str := ⟨l.toArray⟩
theorem tl_tS (l : List Nat) : tl (tS l) = l := rfl
theorem tS_tl (s : Str) : tS (tl s) = s := ext_tl rfl
theorem tS_len (l : List Nat) : (tS l).length = l.length := by rw [len_tl, tl_tS]
theorem tS_app (l m : List Nat) : tS l ++ tS m = tS (l ++ m) := ext_tl (by rw [tl_append, tl_tS, tl_tS, tl_tS])
theorem tS_inj {l m : List Nat} (h : tS l = tS m) : l = m := by
  have := congrArg tl h
  exact this
/-- signs that a text may have -/
def sOk (l : List Nat) : Prop := ∀ c ∈ l, c < 0x110000
theorem ok_tS {l : List Nat} (h : sOk l) : okPy (.str (tS l)) = true := by
  have e : PyData.strOk (tS l) = true := by
    unfold PyData.strOk
    rw [Array.all_eq_true']
    intro c hc
    exact decide_eq_true (h c (Array.mem_toList_iff.mpr hc))
  show (PyData.strOk (tS l) && decide (_ ≤ 64)) = true
  rw [e]
  rfl
theorem eqD_tS {l m : List Nat} : eqD (.str (tS l)) (.str (tS m)) = decide (l = m) := by
  show (tS l == tS m) = decide (l = m)
  by_cases h : l = m
  · subst h
    rw [decide_eq_true rfl]
    exact beq_self_eq_true _
  · rw [decide_eq_false h]
    exact beq_eq_false_iff_ne.mpr fun e => h (tS_inj e)
theorem eq_tS {l m : List Nat} (hl : sOk l) (hm : sOk m) : gEq (.str (tS l)) (.str (tS m)) = some (.sh (.bl (decide (l = m)))) := by
  unfold gEq
  rw [if_pos ⟨ok_tS hl, ok_tS hm⟩, eqD_tS]
theorem ne_tS {l m : List Nat} (hl : sOk l) (hm : sOk m) : gNe (.str (tS l)) (.str (tS m)) = some (.sh (.bl (!decide (l = m)))) := by
  unfold gNe
  rw [if_pos ⟨ok_tS hl, ok_tS hm⟩, eqD_tS]
theorem sOk_cons {c : Nat} {l : List Nat} (h : sOk (c :: l)) : sOk [c] ∧ sOk l := ⟨fun d hd => h d (by rw [List.mem_singleton.mp hd]; exact List.mem_cons_self), fun d hd => h d (List.mem_cons_of_mem _ hd)⟩
theorem sOk_take {l : List Nat} {n : Nat} (h : sOk l) : sOk (l.take n) := fun c hc => h c (List.mem_of_mem_take hc)
theorem sOk_drop {l : List Nat} {n : Nat} (h : sOk l) : sOk (l.drop n) := fun c hc => h c (List.mem_of_mem_drop hc)
theorem sOk_app {l m : List Nat} (h : sOk l) (g : sOk m) : sOk (l ++ m) := fun c hc => (List.mem_append.mp hc).elim (h c) (g c)
theorem sOk_lit {l : List Nat} (h : l.all (fun c => decide (c < 0x110000)) = true) : sOk l := fun c hc => of_decide_eq_true (List.all_eq_true.mp h c hc)
/-- the signs of a whole number -/
def zL (p : Int) : List Nat := tl (Str.ofString (toString p))
theorem zL_nat (n : Nat) : zL (n : Int) = numL n := tl_num n
theorem zL_neg (n : Nat) : zL (Int.negSucc n) = 45 :: numL (n + 1) := by
  show tl (Str.ofString ("-" ++ toString ((n + 1 : Nat)))) = _
  have e := tl_num (n + 1)
  rw [tl_ofString] at e
  rw [tl_ofString, String.toList_append, List.map_append]
  show 45 :: _ = _
  exact congrArg (45 :: ·) e
theorem numL_head : ∀ (n : Nat) (c : Nat) (r : List Nat), numL n = c :: r → c = 48 → n = 0 ∧ r = [] := by
  intro n
  induction n using Nat.strongRecOn with
  | _ n ih =>
    intro c r h hc
    by_cases hn : n < 10
    · rw [numL_lt hn] at h
      injection h with h1 h2
      exact ⟨by omega, h2.symm⟩
    · rw [numL_step (by omega)] at h
      cases e : numL (n / 10) with
      | nil => exact absurd e (numL_ne _)
      | cons d s =>
        rw [e] at h
        injection h with h1 h2
        have := (ih (n / 10) (by omega) d s e (by omega)).1
        omega
/-- figures alone -/
def figs (l : List Nat) : Bool := l.all fun c => decide (48 ≤ c) && decide (c ≤ 57)
theorem figs_numL (n : Nat) : figs (numL n) = true := List.all_eq_true.mpr fun c hc => by
  have := numL_digits n c hc
  rw [Bool.and_eq_true, decide_eq_true_eq, decide_eq_true_eq]
  exact this
theorem figs_all {l : List Nat} (h : figs l = true) : NumText.AllDigits l := fun c hc => by
  have := List.all_eq_true.mp h c hc
  rw [Bool.and_eq_true, decide_eq_true_eq, decide_eq_true_eq] at this
  exact this
theorem figs_ok {l : List Nat} (h : figs l = true) : sOk l := fun c hc => by
  have := List.all_eq_true.mp h c hc
  rw [Bool.and_eq_true, decide_eq_true_eq, decide_eq_true_eq] at this
  omega
theorem zL_ok {p : Int} : sOk (zL p) := by
  cases p with
  | ofNat n =>
    rw [show zL (Int.ofNat n) = numL n from zL_nat n]
    exact figs_ok (figs_numL n)
  | negSucc n =>
    rw [zL_neg]
    intro c hc
    rcases List.mem_cons.mp hc with rfl | hc
    · decide
    · exact figs_ok (figs_numL (n + 1)) c hc
def figL (l : List Nat) : List Nat := if l.take 1 = [45] then l.drop 1 else l
/-- the whole number that a word writes -/
def numS (most : Nat) (l : List Nat) : Option Int :=
  if (1 ≤ (figL l).length ∧ (figL l).length ≤ most) ∧ figs (figL l) = true then
    if (figL l).take 1 = [48] ∧ l ≠ [48] then none
    else some (if l.take 1 = [45] then -((NumText.digitsVal (figL l) : Nat) : Int) else ((NumText.digitsVal (figL l) : Nat) : Int))
  else none
theorem intT {l : List Nat} {most : Nat} {n : Int} (h : numS most l = some n) (hm : most ≤ 600) : intText? (tS l) = some n ∧ l.length ≤ 601 := by
  unfold numS at h
  split at h
  · rename_i hc
    split at h
    · cases h
    · injection h with h
      subst h
      unfold figL at hc ⊢
      split
      · rename_i h45
        rw [if_pos h45] at hc
        obtain ⟨r, rfl⟩ : ∃ r, l = 45 :: r := by
          cases l with
          | nil => cases h45
          | cons c r =>
            injection h45 with h1 _
            exact ⟨r, by rw [h1]⟩
        have hc : (1 ≤ r.length ∧ r.length ≤ most) ∧ figs r = true := hc
        refine ⟨intText_neg (x := tS (45 :: r)) (cs := r) rfl (figs_all hc.2) (fun e => by rw [e] at hc; simp at hc) (by rw [tS_len]; show r.length + 1 ≤ 4300; omega), by show r.length + 1 ≤ 601; omega⟩
      · rename_i h45
        rw [if_neg h45] at hc
        exact ⟨intText_digits (x := tS l) (figs_all hc.2) (fun e => by rw [show l = [] from e] at hc; simp at hc) (by rw [tS_len]; omega), by omega⟩
  · cases h
theorem numS_ok {l : List Nat} {most : Nat} {n : Int} (h : numS most l = some n) : sOk l := by
  unfold numS at h
  split at h
  · rename_i hc
    unfold figL at hc
    split at hc
    · rename_i h45
      intro c hm
      cases l with
      | nil => cases hm
      | cons d r =>
        injection h45 with h1 _
        rcases List.mem_cons.mp hm with rfl | hm
        · omega
        · exact figs_ok hc.2 c hm
    · exact figs_ok hc.2
  · cases h
theorem numS_zL {p : Int} (h : p.natAbs < 10 ^ 30) : numS 30 (zL p) = some p := by
  cases p with
  | ofNat n =>
    rw [show zL (Int.ofNat n) = numL n from zL_nat n]
    have h45 : ¬ (numL n).take 1 = [45] := by
      intro e
      cases e2 : numL n with
      | nil => exact absurd e2 (numL_ne _)
      | cons c r =>
        rw [e2] at e
        injection e with e _
        have := numL_digits n c (by rw [e2]; exact List.mem_cons_self)
        omega
    have hf : figL (numL n) = numL n := if_neg h45
    unfold numS
    rw [hf, if_pos ⟨⟨Nat.pos_of_ne_zero fun e => numL_ne n (List.length_eq_zero_iff.mp e), numL_len (by decide) h⟩, figs_numL n⟩, if_neg (by
      rintro ⟨h1, h2⟩
      cases e2 : numL n with
      | nil => exact absurd e2 (numL_ne _)
      | cons c r =>
        rw [e2] at h1
        injection h1 with h1 _
        obtain ⟨_, z⟩ := numL_head n c r e2 h1
        rw [e2, h1, z] at h2
        exact h2 rfl), if_neg h45, numL_val]
    rfl
  | negSucc n =>
    rw [zL_neg]
    have hf : figL (45 :: numL (n + 1)) = numL (n + 1) := if_pos rfl
    unfold numS
    rw [hf, if_pos ⟨⟨Nat.pos_of_ne_zero fun e => numL_ne _ (List.length_eq_zero_iff.mp e), numL_len (by decide) h⟩, figs_numL _⟩, if_neg (by
      rintro ⟨h1, _⟩
      cases e2 : numL (n + 1) with
      | nil => exact absurd e2 (numL_ne _)
      | cons c r =>
        rw [e2] at h1
        injection h1 with h1 _
        obtain ⟨z, _⟩ := numL_head _ c r e2 h1
        omega)]
    show some (-((digitsVal (numL (n + 1)) : Nat) : Int)) = _
    rw [numL_val]
    rfl
theorem cut_1 {l : List Nat} : cutS (tS l) none (some 1) = tS (l.take 1) := by
  have : HT.sIx l.length l.length (some 1) = min 1 l.length := rfl
  refine ext_tl ?_
  show (l.drop 0).take (HT.sIx (tS l).length (tS l).length (some 1) - 0) = l.take 1
  rw [tS_len, this, List.drop_zero, Nat.sub_zero]
  cases l with
  | nil => rfl
  | cons c r => rw [Nat.min_eq_left (by show 1 ≤ r.length + 1; omega)]
theorem cut_r {l : List Nat} : cutS (tS l) (some 1) none = tS (l.drop 1) := by
  have e : HT.sIx l.length 0 (some 1) = min 1 l.length := rfl
  refine ext_tl ?_
  show (l.drop (HT.sIx (tS l).length 0 (some 1))).take ((tS l).length - HT.sIx (tS l).length 0 (some 1)) = l.drop 1
  rw [tS_len, e]
  cases l with
  | nil => rfl
  | cons c r =>
    rw [Nat.min_eq_left (by show 1 ≤ r.length + 1; omega)]
    show r.take (r.length + 1 - 1) = r
    rw [Nat.add_sub_cancel, List.take_length]
theorem sl_1 {l : List Nat} (h : l.length ≤ 1000000) : gSl (.str (tS l)) none (some 1) = some (.sh (.str (tS (l.take 1)))) := by
  show (if (tS l).length ≤ 1000000 then some (SV.sh (.str (cutS (tS l) none (some 1)))) else none) = _
  rw [if_pos (by rw [tS_len]; exact h), cut_1]
theorem sl_r {l : List Nat} (h : l.length ≤ 1000000) : gSl (.str (tS l)) (some 1) none = some (.sh (.str (tS (l.drop 1)))) := by
  show (if (tS l).length ≤ 1000000 then some (SV.sh (.str (cutS (tS l) (some 1) none))) else none) = _
  rw [if_pos (by rw [tS_len]; exact h), cut_r]
theorem lit_minus : ("-" : Str) = tS [45] := ext_tl (by rw [tl_ofString]; rfl)
theorem lit_0 : ("0" : Str) = tS [48] := ext_tl (by rw [tl_ofString]; rfl)
theorem lit_sl : ("/" : Str) = tS [47] := ext_tl (by rw [tl_ofString]; rfl)
theorem lit_figs : ("0123456789" : Str) = tS [48, 49, 50, 51, 52, 53, 54, 55, 56, 57] := ext_tl (by rw [tl_ofString]; rfl)
theorem in_figs {c : Nat} : gInS true (.str (tS [c])) (.str (tS [48, 49, 50, 51, 52, 53, 54, 55, 56, 57])) = some (.sh (.bl (!(decide (48 ≤ c) && decide (c ≤ 57))))) := by
  show some (SV.sh (.bl (true ^^ decide (c ∈ [48, 49, 50, 51, 52, 53, 54, 55, 56, 57])))) = _
  have : decide (c ∈ [48, 49, 50, 51, 52, 53, 54, 55, 56, 57]) = (decide (48 ≤ c) && decide (c ≤ 57)) := by
    rw [← Bool.decide_and]
    refine decide_eq_decide.mpr ?_
    simp only [List.mem_cons, List.not_mem_nil, or_false]
    omega
  rw [this, Bool.true_xor]
theorem len_str {l : List Nat} (h : l.length ≤ 1000000) : gLen [.str (tS l)] = some (.sh (.int (l.length : Int))) := by
  show (if (tS l).length ≤ 1000000 then some (SV.sh (.int ((tS l).length : Nat))) else none) = _
  rw [if_pos (by rw [tS_len]; exact h), tS_len]
theorem ix_str {c : Nat} {r : List Nat} (h : (c :: r).length ≤ 1000000) : gIx (.str (tS (c :: r))) (.int 0) = some (.sh (.str (tS [c]))) := by
  show (if (tS (c :: r)).length ≤ 1000000 then (atI (c :: r) 0).map (fun c => SV.sh (.str ⟨#[c]⟩)) else none) = _
  rw [if_pos (by rw [tS_len]; exact h), atI_0]
  rfl
theorem sg_tS (l : List Nat) : signD (tS l) = l.map fun c => D.str (tS [c]) := rfl
/-! read_number, read_place, show_place -/
theorem lc_fig {s0 s1 : Option SV} {F : List Nat} (hF : F.length ≤ 1000000) : vLc [3] (iSg (oOf (vVar 2))) (gN 3) lc_read_number_1 le_read_number_1 [s0, s1, some (.sh (.str (tS F))), none] = some (.ok (.fr ((F.filter fun c => !(decide (48 ≤ c) && decide (c ≤ 57))).map fun c => D.str (tS [c]))) [s0, s1, some (.sh (.str (tS F))), none]) := by
  have hi : iSg (oOf (vVar 2)) [s0, s1, some (.sh (.str (tS F))), none] = some (.ok ⟨signD (tS F), []⟩ [s0, s1, some (.sh (.str (tS F))), none]) := by
    simp_arith only []
  have e := vLc_sh (vs := [3]) (g := gN 3) (c := lc_read_number_1) (elt := le_read_number_1) (p := fun d => match d with | .str s => (match tl s with | [c] => !(decide (48 ≤ c) && decide (c ≤ 57)) | _ => false) | _ => false) (f := fun d => d) hi (noFr_1 rfl (fun c h => nomatch h)) (fun d hd => by
      rw [sg_tS] at hd
      obtain ⟨c, hc, rfl⟩ := List.mem_map.mp hd
      refine ⟨[s0, s1, some (.sh (.str (tS F))), some (.sh (.str (tS [c])))], rfl, rfl, rfl, ?_, fun _ => ?_⟩
      · show _ = some (Out.ok (!(decide (48 ≤ c) && decide (c ≤ 57))) _)
        unfold lc_read_number_1
        simp_arith only [lit_figs, in_figs]
      · unfold le_read_number_1
        simp_arith only []) (by rw [sg_tS, List.length_map]; exact hF)
  rw [e, sg_tS, List.map_id', List.filter_map]
  rfl
theorem ne_nil0 : gNe (.lst []) (.lst []) = some (.sh (.bl false)) := rfl
theorem fig_filter {F : List Nat} (h : figs F = true) : (F.filter fun c => !(decide (48 ≤ c) && decide (c ≤ 57))) = [] := List.filter_eq_nil_iff.mpr fun c hc => by
  rw [List.all_eq_true.mp h c hc]
  decide
theorem read_num {l : List Nat} {n : Int} (h : numS 30 l = some n) : phi_read_number [.str (tS l), .int 30] = some (.ret (.sh (.int n)) []) := by
  obtain ⟨e1, e2⟩ := intT h (by decide)
  have hs := numS_ok h
  have hl : l.length ≤ 1000000 := by omega
  have ei : gIntS [.str (tS l)] = some (.sh (.int n)) := e_intS (by rw [tS_len]; omega) e1
  have s45 : sOk [45] := sOk_lit rfl
  have s48 : sOk [48] := sOk_lit rfl
  unfold numS at h
  split at h
  · rename_i hc
    split at h
    · cases h
    · rename_i h0
      clear h
      have hF : (figL l).length ≤ 1000000 := by omega
      have lc := @lc_fig (some (.sh (.str (tS l)))) (some (.sh (.int 30))) (figL l) hF
      rw [fig_filter hc.2, List.map_nil] at lc
      obtain ⟨k, ln, k1, k2⟩ : ∃ k : Int, gLen [.str (tS (figL l))] = some (.sh (.int k)) ∧ decide (1 ≤ k) = true ∧ decide (k ≤ 30) = true := ⟨_, len_str hF, decide_eq_true (by omega), decide_eq_true (by omega)⟩
      obtain ⟨c, r, ec⟩ : ∃ c r, figL l = c :: r := by
        cases e : figL l with
        | nil => rw [e] at hc; simp at hc
        | cons c r => exact ⟨c, r, rfl⟩
      have ix := @ix_str c r (by rw [← ec]; exact hF)
      rw [ec, List.take_succ_cons, List.take_zero] at h0
      have sc : sOk [c] := (sOk_cons (ec ▸ figs_ok hc.2 : sOk (c :: r))).1
      have q1 := eq_tS (sOk_take (n := 1) hs) s45
      have q2 := eq_tS sc s48
      have q3 := ne_tS hs s48
      have hk : (decide ([c] = [48]) && !decide (l = [48])) = false := by
        by_cases a : [c] = [48]
        · by_cases b : l = [48]
          · rw [decide_eq_true b]
            exact Bool.and_false _
          · exact absurd ⟨a, b⟩ h0
        · rw [decide_eq_false a]
          rfl
      generalize hA : decide ([c] = [48]) = A at hk q2
      generalize hB : (!decide (l = [48])) = B at hk q3
      generalize hG : tS (figL l) = G at lc ln
      rw [ec] at hG
      rw [hG] at ix
      have fg : tS (if l.take 1 = [45] then l.drop 1 else l) = G := by
        rw [← hG, ← ec]
        rfl
      have s1 := sl_1 hl
      have s2 := sl_r hl
      generalize hD : decide (l.take 1 = [45]) = D at q1
      generalize tS (l.take 1) = T at s1 q1
      unfold phi_read_number b_read_number
      cases D with
      | true =>
        rw [if_pos (of_decide_eq_true hD)] at fg
        rw [fg] at s2
        cases A with
        | true =>
          rw [Bool.true_and] at hk
          subst hk
          simp_arith only [s1, s2, lit_minus, q1, ln, k1, k2, lc, ne_nil0, ix, lit_0, q2, q3, ei]
        | false => simp_arith only [s1, s2, lit_minus, q1, ln, k1, k2, lc, ne_nil0, ix, lit_0, q2, ei]
      | false =>
        rw [if_neg (of_decide_eq_false hD)] at fg
        subst fg
        cases A with
        | true =>
          rw [Bool.true_and] at hk
          subst hk
          simp_arith only [s1, lit_minus, q1, ln, k1, k2, lc, ne_nil0, ix, lit_0, q2, q3, ei]
        | false => simp_arith only [s1, lit_minus, q1, ln, k1, k2, lc, ne_nil0, ix, lit_0, q2, ei]
  · cases h
theorem part_sl {a b : List Nat} (h : 47 ∉ a) (hl : a.length + b.length < 1000000) : gPartn (.str (tS (a ++ 47 :: b))) [.str "/"] = some (.sh (.tup [.str (tS a), .str (tS [47]), .str (tS b)])) := by
  have e : tS (a ++ 47 :: b) = tS a ++ tS [47] ++ tS b := by rw [tS_app, tS_app, List.append_assoc]; rfl
  rw [lit_sl, e_partn ⟨by rw [tS_len]; rfl, by rw [tS_len, List.length_append, List.length_cons]; omega⟩, e, partition_app (y := tS [47]) (s := 47) (S := []) rfl h]
theorem numS_len {l : List Nat} {n : Int} (h : numS 30 l = some n) : l.length ≤ 601 := (intT h (by decide)).2
theorem isStr_str {s : Str} : isStr (.str s) = true := rfl
/-- a place as it may be written -/
def PlOk (p q : Int) : Prop := 0 ≤ q ∧ Int.gcd p q = 1 ∧ (q = 0 → p = 1)
theorem str_z {p : Int} (h : p.natAbs < 10 ^ 30) : gStr [.int p] = some (.sh (.str (tS (zL p)))) := by
  rw [gStr_ok (by
    by_cases z : p.natAbs = 0
    · rw [z]
      decide
    · have : p.natAbs.log2 < 100 := (Nat.log2_lt z).mpr (Nat.lt_of_lt_of_le h (by decide))
      omega)]
  unfold zL
  rw [tS_tl]
theorem add_str {l m : List Nat} (h : l.length + m.length ≤ 1000000) : gAdd (.str (tS l)) (.str (tS m)) = some (.sh (.str (tS (l ++ m)))) := by
  show (if (tS l).length + (tS m).length ≤ 1000000 then some (SV.sh (.str (tS l ++ tS m))) else none) = _
  rw [if_pos (by rw [tS_len, tS_len]; exact h), tS_app]
theorem zL_len {p : Int} (h : p.natAbs < 10 ^ 30) : (zL p).length ≤ 601 := numS_len (numS_zL h)
/-- a place's text -/
def plL (p q : Int) : List Nat := zL p ++ 47 :: zL q
theorem eq_P2 {p q : Int} : gEq (P2 p q) (P2 p q) = some (.sh (.bl true)) := by
  unfold gEq eqD
  rw [if_pos ⟨rfl, rfl⟩]
  simp [toPy, toPyL, PyData.eqv, PyData.eqvAll]
theorem pow9 : gPow (.int 10) (.int 9) = some (.sh (.int 1000000000)) := pw (n := 9) (by decide) (by decide)
theorem pow30 : gPow (.int 10) (.int 30) = some (.sh (.int 1000000000000000000000000000000)) := pw (n := 30) (by decide) (by decide)
theorem base_ok {x : Int} (h0 : 0 ≤ x) (h1 : x < 4) : ∃ B : Int, 4 ≤ B ∧ B ≤ 1000000000000000000000000000000 ∧ gIx (.lst [.int 4, .int 30, .int 1000000000, .int 1000000000000000000000000000000]) (.int x) = some (.sh (.int B)) := by
  rcases (show x = 0 ∨ x = 1 ∨ x = 2 ∨ x = 3 by omega) with rfl | rfl | rfl | rfl
  · exact ⟨_, by decide, by decide, rfl⟩
  · exact ⟨_, by decide, by decide, rfl⟩
  · exact ⟨_, by decide, by decide, rfl⟩
  · exact ⟨_, by decide, by decide, rfl⟩
theorem bd100 {t : Int} (h : t.natAbs < 10 ^ 30) : Bd 100 t := Nat.lt_of_lt_of_le h (by decide)
theorem abs_fac {g p t : Int} (h : t.natAbs < 10 ^ 30) (e : t = g * p) (hg : g ≠ 0) : p.natAbs < 10 ^ 30 := by
  have : p.natAbs ≤ t.natAbs := by
    rw [e, Int.natAbs_mul]
    exact Nat.le_mul_of_pos_left _ (Int.natAbs_pos.mpr hg)
  omega
/-- a place whose text is read -/
def PlB (p q : Int) : Prop := PlOk p q ∧ p.natAbs < 10 ^ 30 ∧ q.natAbs < 10 ^ 30
theorem plok_of {p q : Int} (s : Spt p q) : PlOk p q := by
  obtain ⟨g, h⟩ := s
  refine ⟨by omega, g, fun e => ?_⟩
  subst e
  exact spt_one g (by omega)
theorem drawn_ok {x : Int} (h : 0 ≤ x) : ∃ p q, phi_law_drawn_place [.int x] = some (.ret (.sh (P2 p q)) []) ∧ PlB p q := by
  obtain ⟨B, hB1, hB2, eB⟩ := base_ok (x := x % 4) (Int.emod_nonneg _ (by decide)) (Int.emod_lt_of_pos _ (by decide))
  have p4 : (0 : Int) < 4 := by decide
  have p2 : (0 : Int) < 2 := by decide
  have pB : (0 : Int) < B := by omega
  have d4 : gDiv (.int x) (.int 4) = some (.sh (.int (x / 4))) := gDiv_pos (by decide) (log_9000 (k := 200) (by decide) (by decide) (by decide))
  obtain ⟨y, hy⟩ : ∃ y, x / 4 = y := ⟨_, rfl⟩
  rw [hy] at d4
  have dB : gDiv (.int y) (.int B) = some (.sh (.int (y / B))) := gDiv_pos pB (log_9000 (k := 200) (by omega) (by omega) (by decide))
  have m2 : Sim.MulOk 2 B := mulOk_l (by decide) (by decide)
  have d2 : gDiv (.int y) (.int (2 * B)) = some (.sh (.int (y / (2 * B)))) := gDiv_pos (by omega) (log_9000 (k := 200) (by omega) (by omega) (by decide))
  have r0 : 0 ≤ y / B % 2 := Int.emod_nonneg _ (by decide)
  have r1 : y / B % 2 < 2 := Int.emod_lt_of_pos _ (by decide)
  obtain ⟨s, hs⟩ : ∃ s, y / B % 2 = s := ⟨_, rfl⟩
  rw [hs] at r0 r1
  have t0 : 0 ≤ y % B := Int.emod_nonneg _ (by omega)
  have t1 : y % B < B := Int.emod_lt_of_pos _ pB
  obtain ⟨t, ht⟩ : ∃ t, y % B = t := ⟨_, rfl⟩
  rw [ht] at t0 t1
  have m3 : Sim.MulOk 2 s := mulOk_l (by decide) (by decide)
  have m4 : Sim.MulOk t (1 - 2 * s) := mulOk_r (by omega) (by omega)
  have b0 : 0 ≤ y / (2 * B) % B := Int.emod_nonneg _ (by omega)
  have b1 : y / (2 * B) % B < B := Int.emod_lt_of_pos _ pB
  obtain ⟨b, hb⟩ : ∃ b, y / (2 * B) % B = b := ⟨_, rfl⟩
  rw [hb] at b0 b1
  have hu : (t * (1 - 2 * s)).natAbs < 10 ^ 30 := by
    rcases (show s = 0 ∨ s = 1 by omega) with rfl | rfl
    · omega
    · omega
  obtain ⟨u, eu⟩ : ∃ u, t * (1 - 2 * s) = u := ⟨_, rfl⟩
  rw [eu] at hu
  by_cases h0 : u = 0 ∧ b = 0
  · refine ⟨1, 0, ?_, ⟨by decide, rfl, fun _ => rfl⟩, by decide, by decide⟩
    obtain ⟨z1, z2⟩ := h0
    subst z1
    subst z2
    unfold phi_law_drawn_place b_law_drawn_place
    simp_arith only [pow9, pow30, p4, eB, hy, d4, dB, m2, d2, p2, pB, hs, ht, hb, m3, m4, eu]
  · obtain ⟨p, q, g, e, s', z1, z2, hg⟩ := short_ok h0 (bd100 hu) (bd100 (t := b) (by omega)) (by decide)
    refine ⟨p, q, ?_, plok_of s', abs_fac hu z1 hg, abs_fac (by omega) z2 hg⟩
    have c : (decide (u = 0) && decide (b = 0)) = false := by
      by_cases z : u = 0
      · rw [decide_eq_false (fun w => h0 ⟨z, w⟩)]
        exact Bool.and_false _
      · rw [decide_eq_false z]
        rfl
    unfold phi_law_drawn_place b_law_drawn_place
    by_cases z : decide (u = 0) = true
    · rw [z, Bool.true_and] at c
      simp_arith only [pow9, pow30, p4, eB, hy, d4, dB, m2, d2, p2, pB, hs, ht, hb, m3, m4, eu, z, c, e]
    · rw [Bool.not_eq_true] at z
      simp_arith only [pow9, pow30, p4, eB, hy, d4, dB, m2, d2, p2, pB, hs, ht, hb, m3, m4, eu, z, e]
/-! walks as texts -/
open TL
abbrev PP (q : Int × Int) : D := P2 q.1 q.2
theorem okPPm {W : List (Int × Int)} : okPy (.lst (W.map PP)) = true := by
  have h := okPy_all (k := 1) (by decide) (l := W.map PP) (by
    intro d hd
    obtain ⟨x, _, rfl⟩ := List.mem_map.mp hd
    exact ⟨rfl, Nat.le_refl 1⟩)
  refine okPy_of h.1 ?_
  show PyData.depthAll _ + 1 ≤ 64
  omega
/-- a walk's text -/
def wkL (W : List (Int × Int)) : List Nat := joinL [32] (W.map fun q => plL q.1 q.2)
def GoodW (W : List (Int × Int)) : Prop := (1 ≤ W.length ∧ W.length ≤ 12) ∧ ∀ q ∈ W, PlB q.1 q.2
theorem lit_bl : (" " : Str) = tS [32] := ext_tl (by rw [tl_ofString]; rfl)
theorem strL_strs : ∀ ys : List Str, strL (ys.map D.str) = some ys
  | [] => rfl
  | y :: ys => by
    show (strL (ys.map D.str)).map (y :: ·) = _
    rw [strL_strs ys]
    rfl
theorem joinL_len {y : List Nat} {m : Nat} (hy : y.length = 1) : ∀ l : List (List Nat), (∀ p ∈ l, p.length ≤ m) → (joinL y l).length ≤ l.length * (m + 1)
  | [], _ => Nat.zero_le _
  | [p], h => by
    show p.length ≤ _
    have := h p List.mem_cons_self
    rw [List.length_singleton]
    omega
  | p :: q :: r, h => by
    show (p ++ (y ++ joinL y (q :: r))).length ≤ _
    have h1 := h p List.mem_cons_self
    have h2 := joinL_len hy (q :: r) fun z hz => h z (List.mem_cons_of_mem _ hz)
    rw [List.length_append, List.length_append, hy]
    have e : (p :: q :: r).length * (m + 1) = (q :: r).length * (m + 1) + (m + 1) := by rw [List.length_cons, Nat.add_mul, Nat.one_mul]
    omega
theorem joinL_ok {y : List Nat} (hy : sOk y) : ∀ l : List (List Nat), (∀ p ∈ l, sOk p) → sOk (joinL y l)
  | [], _ => fun c h => nomatch h
  | [p], h => h p List.mem_cons_self
  | p :: q :: r, h => sOk_app (h p List.mem_cons_self) (sOk_app hy (joinL_ok hy (q :: r) fun z hz => h z (List.mem_cons_of_mem _ hz)))
theorem plL_len {p q : Int} (h : PlB p q) : (plL p q).length ≤ 1203 := by
  have h1 := zL_len h.2.1
  have h2 := zL_len h.2.2
  unfold plL
  rw [List.length_append, List.length_cons]
  omega
theorem plL_ok {p q : Int} : sOk (plL p q) := sOk_app zL_ok (sOk_app (l := [47]) (sOk_lit rfl) zL_ok)
theorem wkL_len {W : List (Int × Int)} (g : GoodW W) : (wkL W).length ≤ 20000 := by
  have h := joinL_len (y := [32]) (m := 1203) rfl (W.map fun q => plL q.1 q.2) (by
    intro p hp
    obtain ⟨q, hq, rfl⟩ := List.mem_map.mp hp
    exact plL_len (g.2 q hq))
  rw [List.length_map] at h
  have := g.1
  unfold wkL
  omega
theorem wkL_ok {W : List (Int × Int)} : sOk (wkL W) := joinL_ok (sOk_lit rfl) _ (by
  intro p hp
  obtain ⟨q, hq, rfl⟩ := List.mem_map.mp hp
  exact plL_ok)
def wkS (W : List (Int × Int)) : List Str := W.map fun q => tS (plL q.1 q.2)
theorem wk_join {W : List (Int × Int)} : Txt.join (tS [32]) (wkS W) = tS (wkL W) := by
  refine ext_tl ?_
  rw [join_eq, tl_join]
  unfold wkS wkL
  rw [List.map_map]
  rfl
theorem sum_le {m : Nat} : ∀ l : List Nat, (∀ x ∈ l, x ≤ m) → l.sum ≤ l.length * m
  | [], _ => Nat.zero_le _
  | x :: l, h => by
    have h1 := h x List.mem_cons_self
    have h2 := sum_le l fun z hz => h z (List.mem_cons_of_mem _ hz)
    rw [List.sum_cons, List.length_cons, Nat.add_mul]
    omega
theorem e_joinW {W : List (Int × Int)} (g : GoodW W) : gJoin (.str " ") [.lst ((wkS W).map D.str)] = some (.sh (.str (tS (wkL W)))) := by
  show (strL ((wkS W).map D.str)).bind _ = _
  rw [strL_strs, Option.bind_some, lit_bl, wk_join, if_pos]
  have h := sum_le (m := 1203) ((wkS W).map (·.length)) (by
    intro x hx
    obtain ⟨s, hs, rfl⟩ := List.mem_map.mp hx
    obtain ⟨q, hq, rfl⟩ := List.mem_map.mp hs
    show (tS (plL q.1 q.2)).length ≤ _
    rw [tS_len]
    exact plL_len (g.2 q hq))
  have hl : (wkS W).length = W.length := List.length_map _
  rw [List.length_map, hl] at h
  have := g.1
  rw [hl, tS_len]
  show _ + W.length * 1 ≤ _
  omega
/-- the text of a place that a value is -/
def sTx : D → D
  | .tup [.int p, .int q] => .str (tS (plL p q))
  | _ => .non
theorem map_sTx {W : List (Int × Int)} : (W.map PP).map sTx = (wkS W).map D.str := by
  unfold wkS
  rw [List.map_map, List.map_map]
  rfl
theorem str_pl {p q : Int} (h : PlB p q) {sl : Sl} : gStr [.int p] = some (.sh (.str (tS (zL p)))) ∧ gStr [.int q] = some (.sh (.str (tS (zL q)))) ∧ gAdd (.str (tS (zL p))) (.str "/") = some (.sh (.str (tS (zL p ++ [47])))) ∧ gAdd (.str (tS (zL p ++ [47]))) (.str (tS (zL q))) = some (.sh (.str (tS (plL p q)))) := by
  have a1 := add_str (l := zL p) (m := [47]) (by have := zL_len h.2.1; show (zL p).length + 1 ≤ 1000000; omega)
  have a2 := add_str (l := zL p ++ [47]) (m := zL q) (by have := zL_len h.2.1; have := zL_len h.2.2; rw [List.length_append]; show (zL p).length + 1 + (zL q).length ≤ 1000000; omega)
  refine ⟨str_z h.2.1, str_z h.2.2, by rw [lit_sl]; exact a1, ?_⟩
  rw [a2, List.append_assoc]
  rfl
/-! which refusal -/
theorem isX_0 {a : Addr} {b : Bool} {r : Sl} : vIsX a b (oPk 0) (some (.sh (.adr a)) :: r) = some (.ok (.sh (.bl b)) (some (.sh (.adr a)) :: r)) := by
  classical
  unfold vIsX bnd
  exact if_pos rfl
theorem blL_of : ∀ bs : List Bool, blL (bs.map D.bl) = some bs
  | [] => rfl
  | b :: bs => by
    show (blL (bs.map D.bl)).map (b :: ·) = _
    rw [blL_of bs]
    rfl
theorem gIdB_of {bs : List Bool} {i : Nat} (h : true ∈ bs) (e : bs.idxOf true = i) : gIdB (.lst (bs.map D.bl)) [.bl true] = some (.sh (.int i)) := by
  have h1 := blL_of bs
  show (blL (bs.map D.bl)).bind (fun bs => if true ∈ bs then some (SV.sh (.int ((bs.idxOf true : Nat) : Int))) else none) = _
  rw [h1]
  show (if true ∈ bs then some (SV.sh (.int ((bs.idxOf true : Nat) : Int))) else none) = _
  rw [if_pos h, e]
theorem gCn_1 {l : List D} {x : D} : gCn (.lst l) [x] = if (l.all fun d => (toPy d).canLay0) = true ∧ (toPy x).canLay0 = true ∧ (toPy x).depth ≤ 8 then some (.sh (.int ((l.countP fun d => eqD d x : Nat) : Int))) else none := rfl
theorem cn_bl (bs : List Bool) : gCn (.lst (bs.map D.bl)) [.bl true] = some (.sh (.int ((bs.countP id : Nat) : Int))) := by
  rw [gCn_1]
  have h1 : ((bs.map D.bl).all fun d => (toPy d).canLay0) = true := by
    rw [List.all_map]
    exact List.all_eq_true.mpr fun _ _ => rfl
  rw [if_pos ⟨h1, rfl, by decide⟩, List.countP_map]
  have e : ((fun d => eqD d (.bl true)) ∘ D.bl) = id := by
    funext b
    cases b <;> simp [eqD, toPy, PyData.eqv]
  rw [e]
theorem kix_NoText : atI [D.str "NoPlace", D.str "NoLevel", D.str "NoSymbol", D.str "NoEnd", D.str "Apart", D.str "NoRow", D.str "NotClosed", D.str "NoDeed", D.str "NoPart", D.str "NoForm", D.str "NoText", D.str "NoName"] 10 = some (.str "NoText") := rfl
theorem id_NoText : gIdB (.lst [.bl false, .bl false, .bl false, .bl false, .bl false, .bl false, .bl false, .bl false, .bl false, .bl false, .bl true, .bl false]) [.bl true] = some (.sh (.int 10)) := gIdB_of (bs := [false, false, false, false, false, false, false, false, false, false, true, false]) (by decide) rfl
theorem cn_NoText : gCn (.lst [.bl false, .bl false, .bl false, .bl false, .bl false, .bl false, .bl false, .bl false, .bl false, .bl false, .bl true, .bl false]) [.bl true] = some (.sh (.int 1)) := cn_bl [false, false, false, false, false, false, false, false, false, false, true, false]
theorem kind_NoText {a : Addr} : phi_law_kind 11 a [.adr a] = some (.ret (.sh (.str "NoText")) []) := by
  unfold phi_law_kind b_law_kind
  simp_arith only [isX_0, cn_NoText, id_NoText, List.getElem?_cons_succ, List.getElem?_cons_zero, kix_NoText]
/-! k85: numbers as they are written, and not -/
open TL
open PySem.NumText (AllDigits digitsVal)
theorem val_app (F : List Nat) (c : Nat) : digitsVal (F ++ [c]) = digitsVal F * 10 + (c - 48) := by
  unfold digitsVal
  rw [List.foldl_append]
  rfl
theorem figs_app {F G : List Nat} : figs (F ++ G) = (figs F && figs G) := List.all_append
theorem last_of : ∀ {F : List Nat}, F ≠ [] → ∃ G c, F = G ++ [c]
  | [], h => absurd rfl h
  | [c], _ => ⟨[], c, rfl⟩
  | a :: b :: r, _ => by
    obtain ⟨G, c, e⟩ := last_of (F := b :: r) (by simp)
    exact ⟨a :: G, c, by rw [e]; rfl⟩
theorem fig_at {c : Nat} (h : figs [c] = true) : 48 ≤ c ∧ c ≤ 57 := by
  have := List.all_eq_true.mp h c List.mem_cons_self
  rw [Bool.and_eq_true, decide_eq_true_eq, decide_eq_true_eq] at this
  exact this
theorem figs_val : ∀ (n : Nat) {F : List Nat}, F.length = n → figs F = true → F ≠ [] → F.take 1 ≠ [48] → numL (digitsVal F) = F ∧ 0 < digitsVal F := by
  intro n
  induction n with
  | zero =>
    intro F hl _ hne _
    exact absurd (List.length_eq_zero_iff.mp hl) hne
  | succ n ih =>
    intro F hl hf hne h0
    obtain ⟨G, c, rfl⟩ := last_of hne
    rw [figs_app, Bool.and_eq_true] at hf
    obtain ⟨c1, c2⟩ := fig_at hf.2
    rw [val_app]
    cases G with
    | nil =>
      have hc : c ≠ 48 := fun e => h0 (by rw [e]; rfl)
      have e0 : digitsVal [] = 0 := rfl
      rw [e0, Nat.zero_mul, Nat.zero_add, numL_lt (by omega)]
      refine ⟨?_, by omega⟩
      show [48 + (c - 48)] = [c]
      rw [show 48 + (c - 48) = c by omega]
    | cons a r =>
      rw [List.length_append, List.length_singleton] at hl
      obtain ⟨e, p⟩ := ih (F := a :: r) (by omega) hf.1 (by simp) h0
      refine ⟨?_, by omega⟩
      rw [numL_step (by omega), show (digitsVal (a :: r) * 10 + (c - 48)) / 10 = digitsVal (a :: r) by omega, show (digitsVal (a :: r) * 10 + (c - 48)) % 10 = c - 48 by omega, e, show 48 + (c - 48) = c by omega]
theorem val_lt : ∀ (n : Nat) {F : List Nat}, F.length = n → figs F = true → digitsVal F < 10 ^ n := by
  intro n
  induction n with
  | zero =>
    intro F hl _
    rw [List.length_eq_zero_iff.mp hl]
    decide
  | succ n ih =>
    intro F hl hf
    obtain ⟨G, c, rfl⟩ := last_of (F := F) (fun e => by rw [e] at hl; cases hl)
    rw [figs_app, Bool.and_eq_true] at hf
    obtain ⟨c1, c2⟩ := fig_at hf.2
    rw [List.length_append, List.length_singleton] at hl
    have := ih (F := G) (by omega) hf.1
    rw [val_app, Nat.pow_succ]
    omega
/-- what a word of figures comes to -/
def valS (l : List Nat) : Int := if l.take 1 = [45] then -((digitsVal (figL l) : Nat) : Int) else ((digitsVal (figL l) : Nat) : Int)
def FigW (l : List Nat) : Prop := (1 ≤ (figL l).length ∧ (figL l).length ≤ 30) ∧ figs (figL l) = true
instance (l : List Nat) : Decidable (FigW l) := by unfold FigW; infer_instance
def Zer (l : List Nat) : Prop := (figL l).take 1 = [48] ∧ l ≠ [48]
instance (l : List Nat) : Decidable (Zer l) := by unfold Zer; infer_instance
theorem numS_30 {l : List Nat} : numS 30 l = if FigW l then (if Zer l then none else some (valS l)) else none := rfl
theorem sgn_of {l : List Nat} (h : l.take 1 = [45]) : l = 45 :: figL l := by
  unfold figL
  rw [if_pos h]
  cases l with
  | nil => cases h
  | cons c r =>
    injection h with h1 _
    rw [h1]
    rfl
theorem uns_of {l : List Nat} (h : ¬ l.take 1 = [45]) : figL l = l := if_neg h
theorem valS_lt {l : List Nat} (h : FigW l) : (valS l).natAbs < 10 ^ 30 := by
  have v := val_lt _ rfl h.2
  have m : (10 : Nat) ^ (figL l).length ≤ 10 ^ 30 := Nat.pow_le_pow_right (by decide) h.1.2
  unfold valS
  split
  · rw [Int.natAbs_neg, Int.natAbs_natCast]
    omega
  · rw [Int.natAbs_natCast]
    omega
theorem intW {l : List Nat} (h : FigW l) : intText? (tS l) = some (valS l) ∧ l.length ≤ 31 := by
  obtain ⟨⟨h1, h2⟩, h3⟩ := h
  unfold valS
  by_cases hs : l.take 1 = [45]
  · rw [if_pos hs]
    have e := sgn_of hs
    have ll : l.length = (figL l).length + 1 := by
      conv => lhs; rw [e]
      rfl
    exact ⟨intText_neg (x := tS l) (cs := figL l) e (figs_all h3) (fun z => by rw [z] at h1; exact absurd h1 (by decide)) (by rw [tS_len]; omega), by omega⟩
  · rw [if_neg hs]
    have e := uns_of hs
    rw [e] at h1 h2 h3 ⊢
    exact ⟨intText_digits (x := tS l) (figs_all h3) (fun z => by rw [show l = [] from z] at h1; exact absurd h1 (by decide)) (by rw [tS_len]; omega), by omega⟩
/-- its own text, where it is written so -/
theorem zL_val {l : List Nat} (h : FigW l) : decide (zL (valS l) = l) = !decide (Zer l) := by
  obtain ⟨⟨h1, h2⟩, h3⟩ := h
  have hne : figL l ≠ [] := fun z => by rw [z] at h1; exact absurd h1 (by decide)
  by_cases hz : Zer l
  · rw [decide_eq_true hz]
    refine decide_eq_false fun e => ?_
    obtain ⟨z1, z2⟩ := hz
    obtain ⟨r, hr⟩ : ∃ r, figL l = 48 :: r := by
      cases hF : figL l with
      | nil => exact absurd hF hne
      | cons c r =>
        rw [hF] at z1
        injection z1 with z1 _
        exact ⟨r, by rw [z1]⟩
    unfold valS at e
    by_cases hs : l.take 1 = [45]
    · rw [if_pos hs] at e
      have el := sgn_of hs
      cases hv : digitsVal (figL l) with
      | zero =>
        rw [hv] at e
        have e : numL 0 = l := e
        rw [numL_lt (by decide)] at e
        rw [← e] at hs
        exact absurd hs (by decide)
      | succ v =>
        rw [hv] at e
        have e : zL (Int.negSucc v) = l := e
        rw [zL_neg, el] at e
        injection e with _ e
        rw [hr] at e
        have := (numL_head _ _ _ e rfl).1
        omega
    · rw [if_neg hs, zL_nat] at e
      have el := uns_of hs
      rw [el] at hr e
      rw [hr] at e
      obtain ⟨_, q⟩ := numL_head _ _ _ e rfl
      exact z2 (by rw [hr, q])
  · rw [decide_eq_false hz]
    refine decide_eq_true ?_
    unfold valS
    by_cases h0 : (figL l).take 1 = [48]
    · have l48 : l = [48] := Classical.byContradiction fun q => hz ⟨h0, q⟩
      rw [l48]
      rfl
    · obtain ⟨e, p⟩ := figs_val _ rfl h3 hne h0
      by_cases hs : l.take 1 = [45]
      · rw [if_pos hs]
        have el := sgn_of hs
        obtain ⟨v, hv⟩ : ∃ v, digitsVal (figL l) = v + 1 := ⟨digitsVal (figL l) - 1, by omega⟩
        rw [hv] at e ⊢
        show zL (Int.negSucc v) = l
        rw [zL_neg, e]
        exact el.symm
      · rw [if_neg hs, zL_nat, e]
        exact uns_of hs
/-! no number: the program -/
theorem okPy_sgs {L : List Nat} (h : sOk L) : okPy (.lst (L.map fun c => .str (tS [c]))) = true := by
  have e := okPy_all (k := 0) (by decide) (l := L.map fun c => D.str (tS [c])) (by
    intro d hd
    obtain ⟨c, hc, rfl⟩ := List.mem_map.mp hd
    have q := ok_tS (l := [c]) (fun x hx => by rw [List.mem_singleton.mp hx]; exact h c hc)
    have q : (PyData.strOk (tS [c]) && decide (0 ≤ 64)) = true := q
    rw [Bool.and_eq_true] at q
    exact ⟨q.1, Nat.le_refl 0⟩)
  refine okPy_of e.1 ?_
  have := e.2
  show PyData.depthAll (toPyL (L.map fun c => D.str (tS [c]))) + 1 ≤ 64
  omega
theorem eqL_nil {d : D} {l : List D} : eqD (.lst (d :: l)) (.lst []) = false := rfl
theorem ne_some {L : List Nat} (h : sOk L) : gNe (.lst (L.map fun c => .str (tS [c]))) (.lst []) = some (.sh (.bl (!L.isEmpty))) := by
  unfold gNe
  rw [if_pos ⟨okPy_sgs h, rfl⟩]
  cases L with
  | nil => rfl
  | cons c r =>
    show some (SV.sh (.bl (!eqD (.lst (.str (tS [c]) :: r.map fun c => D.str (tS [c]))) (.lst [])))) = _
    rw [eqL_nil]
    rfl
def badF (F : List Nat) : List Nat := F.filter fun c => !(decide (48 ≤ c) && decide (c ≤ 57))
theorem badF_figs {F : List Nat} : (badF F).isEmpty = figs F := by
  unfold badF figs
  rw [Bool.eq_iff_iff, List.isEmpty_iff, List.filter_eq_nil_iff, List.all_eq_true]
  constructor
  · intro h c hc
    have := h c hc
    simpa using this
  · intro h c hc
    have := h c hc
    rw [this]
    decide
theorem badF_ok {F : List Nat} (h : sOk F) : sOk (badF F) := fun c hc => h c (List.mem_filter.mp hc).1
theorem figL_ok {l : List Nat} (h : sOk l) : sOk (figL l) := by
  unfold figL
  split
  · exact sOk_drop h
  · exact h
theorem figL_len {l : List Nat} : (figL l).length ≤ l.length := by
  unfold figL
  split
  · rw [List.length_drop]
    omega
  · exact Nat.le_refl _
theorem read_no {l : List Nat} (h : numS 30 l = none) (hs : sOk l) (hl : l.length ≤ 900000) : phi_read_number [.str (tS l), .int 30] = some (.exc 11 []) := by
  have s45 : sOk [45] := sOk_lit rfl
  have s48 : sOk [48] := sOk_lit rfl
  have hF : (figL l).length ≤ 1000000 := by have := @figL_len l; omega
  have lc := @lc_fig (some (.sh (.str (tS l)))) (some (.sh (.int 30))) (figL l) hF
  have nb := ne_some (badF_ok (figL_ok hs))
  rw [badF_figs] at nb
  have ln := len_str hF
  have q1 := eq_tS (sOk_take (n := 1) hs) s45
  have s1 := sl_1 (l := l) (by omega)
  have s2 := sl_r (l := l) (by omega)
  have fg : tS (if l.take 1 = [45] then l.drop 1 else l) = tS (figL l) := rfl
  generalize hD : decide (l.take 1 = [45]) = dq at q1
  generalize tS (l.take 1) = T at s1 q1
  have lc : vLc [3] (iSg (oOf (vVar 2))) (gN 3) lc_read_number_1 le_read_number_1 _ = some (.ok (.fr ((badF (figL l)).map fun c => D.str (tS [c]))) _) := lc
  rw [numS_30] at h
  have two : ∃ k : Int, gLen [.str (tS (figL l))] = some (.sh (.int k)) ∧ k = ((figL l).length : Int) := ⟨_, ln, rfl⟩
  obtain ⟨k, ln, hk⟩ := two
  by_cases hw : FigW l
  · rw [if_pos hw] at h
    have hz : Zer l := Classical.byContradiction fun q => by rw [if_neg q] at h; cases h
    obtain ⟨z1, z2⟩ := hz
    have k1 : decide (1 ≤ k) = true := decide_eq_true (by have := hw.1.1; omega)
    have k2 : decide (k ≤ 30) = true := decide_eq_true (by have := hw.1.2; omega)
    obtain ⟨r, hr⟩ : ∃ r, figL l = 48 :: r := by
      cases hF : figL l with
      | nil => rw [hF] at z1; cases z1
      | cons c r =>
        rw [hF] at z1
        injection z1 with z1 _
        exact ⟨r, by rw [z1]⟩
    have ix := @ix_str 48 r (by rw [← hr]; exact hF)
    rw [← hr] at ix
    have q2 := eq_tS s48 s48
    rw [decide_eq_true rfl] at q2
    have q3 := ne_tS hs s48
    rw [decide_eq_false z2] at q3
    rw [hw.2] at nb
    generalize (badF (figL l)).map (fun c => D.str (tS [c])) = BL at *
    generalize tS (figL l) = G at *
    unfold phi_read_number b_read_number
    cases dq with
    | true =>
      rw [if_pos (of_decide_eq_true hD)] at fg
      rw [fg] at s2
      simp_arith only [s1, s2, lit_minus, q1, ln, k1, k2, lc, nb, ix, lit_0, q2, q3, sRaise]
    | false =>
      rw [if_neg (of_decide_eq_false hD)] at fg
      subst fg
      simp_arith only [s1, lit_minus, q1, ln, k1, k2, lc, nb, ix, lit_0, q2, q3, sRaise]
  · clear h
    by_cases a1 : 1 ≤ k
    · by_cases a2 : k ≤ 30
      · have k1 : decide (1 ≤ k) = true := decide_eq_true a1
        have k2 : decide (k ≤ 30) = true := decide_eq_true a2
        have nf : figs (figL l) = false := by
          cases hf : figs (figL l) with
          | false => rfl
          | true => exact absurd ⟨⟨by omega, by omega⟩, hf⟩ hw
        rw [nf] at nb
        generalize (badF (figL l)).map (fun c => D.str (tS [c])) = BL at *
        generalize tS (figL l) = G at *
        unfold phi_read_number b_read_number
        cases dq with
        | true =>
          rw [if_pos (of_decide_eq_true hD)] at fg
          rw [fg] at s2
          simp_arith only [s1, s2, lit_minus, q1, ln, k1, k2, lc, nb, sRaise]
        | false =>
          rw [if_neg (of_decide_eq_false hD)] at fg
          subst fg
          simp_arith only [s1, lit_minus, q1, ln, k1, k2, lc, nb, sRaise]
      · have k1 : decide (1 ≤ k) = true := decide_eq_true a1
        have k2 : decide (k ≤ 30) = false := decide_eq_false a2
        generalize tS (figL l) = G at *
        unfold phi_read_number b_read_number
        cases dq with
        | true =>
          rw [if_pos (of_decide_eq_true hD)] at fg
          rw [fg] at s2
          simp_arith only [s1, s2, lit_minus, q1, ln, k1, k2, sRaise]
        | false =>
          rw [if_neg (of_decide_eq_false hD)] at fg
          subst fg
          simp_arith only [s1, lit_minus, q1, ln, k1, k2, sRaise]
    · have k1 : decide (1 ≤ k) = false := decide_eq_false a1
      generalize tS (figL l) = G at *
      unfold phi_read_number b_read_number
      cases dq with
      | true =>
        rw [if_pos (of_decide_eq_true hD)] at fg
        rw [fg] at s2
        simp_arith only [s1, s2, lit_minus, q1, ln, k1, e_chain, sRaise]
      | false =>
        rw [if_neg (of_decide_eq_false hD)] at fg
        subst fg
        simp_arith only [s1, lit_minus, q1, ln, k1, e_chain, sRaise]
/-! k85: the law's look at a word -/
open TL
open PySem.NumText (AllDigits digitsVal)
theorem lc_due {s0 : Option SV} {F : List Nat} (hF : F.length ≤ 1000000) : vLc [2] (iSg (oOf (vVar 1))) (gN 2) lc_law_number_due_1 le_law_number_due_1 [s0, some (.sh (.str (tS F))), none] = some (.ok (.fr ((badF F).map fun c => D.str (tS [c]))) [s0, some (.sh (.str (tS F))), none]) := by
  have hi : iSg (oOf (vVar 1)) [s0, some (.sh (.str (tS F))), none] = some (.ok ⟨signD (tS F), []⟩ [s0, some (.sh (.str (tS F))), none]) := by
    simp_arith only []
  have e := vLc_sh (vs := [2]) (g := gN 2) (c := lc_law_number_due_1) (elt := le_law_number_due_1) (p := fun d => match d with | .str s => (match tl s with | [c] => !(decide (48 ≤ c) && decide (c ≤ 57)) | _ => false) | _ => false) (f := fun d => d) hi (noFr_1 rfl (fun c h => nomatch h)) (fun d hd => by
      rw [sg_tS] at hd
      obtain ⟨c, hc, rfl⟩ := List.mem_map.mp hd
      refine ⟨[s0, some (.sh (.str (tS F))), some (.sh (.str (tS [c])))], rfl, rfl, rfl, ?_, fun _ => ?_⟩
      · show _ = some (Out.ok (!(decide (48 ≤ c) && decide (c ≤ 57))) _)
        unfold lc_law_number_due_1
        simp_arith only [lit_figs, in_figs]
      · unfold le_law_number_due_1
        simp_arith only []) (by rw [sg_tS, List.length_map]; exact hF)
  rw [e, sg_tS, List.map_id', List.filter_map]
  rfl
def oI : Option Int → D
  | some n => .int n
  | none => .non
theorem lit_e : ("" : Str) = tS [] := ext_tl (by rw [tl_ofString]; rfl)
theorem due_x {l : List Nat} (hs : sOk l) (hl : l.length ≤ 900000) : phi_law_number_due [.str (tS l)] = some (.ret (.sh (oI (numS 30 l))) []) := by
  have s45 : sOk [45] := sOk_lit rfl
  have hF : (figL l).length ≤ 1000000 := by have := @figL_len l; omega
  have lc := @lc_due (some (.sh (.str (tS l)))) (figL l) hF
  have nb := ne_some (badF_ok (figL_ok hs))
  rw [badF_figs] at nb
  have ln := len_str hF
  have q0 := eq_tS (figL_ok hs) (m := []) (fun _ h => nomatch h)
  have q1 := eq_tS (sOk_take (n := 1) hs) s45
  have s1 := sl_1 (l := l) (by omega)
  have s2 := sl_r (l := l) (by omega)
  have fg : tS (if l.take 1 = [45] then l.drop 1 else l) = tS (figL l) := rfl
  have two : ∃ k : Int, gLen [.str (tS (figL l))] = some (.sh (.int k)) ∧ k = ((figL l).length : Int) := ⟨_, ln, rfl⟩
  obtain ⟨k, ln, hk⟩ := two
  generalize hD : decide (l.take 1 = [45]) = dq at q1
  generalize tS (l.take 1) = T at s1 q1
  rw [numS_30]
  by_cases hw : FigW l
  · obtain ⟨ei, l31⟩ := intW hw
    have gi : gIntS [.str (tS l)] = some (.sh (.int (valS l))) := e_intS (by rw [tS_len]; omega) ei
    have gs := str_z (valS_lt hw)
    have ne := ne_tS (l := zL (valS l)) zL_ok hs
    rw [zL_val hw, Bool.not_not] at ne
    have e0 : decide (figL l = []) = false := decide_eq_false fun z => by have := hw.1.1; rw [z] at this; exact absurd this (by decide)
    rw [e0] at q0
    have k2 : decide (30 < k) = false := decide_eq_false (by have := hw.1.2; omega)
    rw [hw.2] at nb
    rw [if_pos hw]
    generalize (badF (figL l)).map (fun c => D.str (tS [c])) = BL at *
    generalize tS (figL l) = G at *
    generalize valS l = n at *
    by_cases hz : Zer l
    · rw [decide_eq_true hz] at ne
      rw [if_pos hz]
      unfold phi_law_number_due b_law_number_due oI
      cases dq with
      | true =>
        rw [if_pos (of_decide_eq_true hD)] at fg
        rw [fg] at s2
        simp_arith only [s1, s2, lit_minus, q1, lit_e, q0, ln, k2, lc, nb, gi, gs, ne]
      | false =>
        rw [if_neg (of_decide_eq_false hD)] at fg
        subst fg
        simp_arith only [s1, lit_minus, q1, lit_e, q0, ln, k2, lc, nb, gi, gs, ne]
    · rw [decide_eq_false hz] at ne
      rw [if_neg hz]
      unfold phi_law_number_due b_law_number_due oI
      cases dq with
      | true =>
        rw [if_pos (of_decide_eq_true hD)] at fg
        rw [fg] at s2
        simp_arith only [s1, s2, lit_minus, q1, lit_e, q0, ln, k2, lc, nb, gi, gs, ne]
      | false =>
        rw [if_neg (of_decide_eq_false hD)] at fg
        subst fg
        simp_arith only [s1, lit_minus, q1, lit_e, q0, ln, k2, lc, nb, gi, gs, ne]
  · rw [if_neg hw]
    by_cases h0 : figL l = []
    · rw [decide_eq_true h0] at q0
      generalize tS (figL l) = G at *
      unfold phi_law_number_due b_law_number_due oI
      cases dq with
      | true =>
        rw [if_pos (of_decide_eq_true hD)] at fg
        rw [fg] at s2
        simp_arith only [s1, s2, lit_minus, q1, lit_e, q0]
      | false =>
        rw [if_neg (of_decide_eq_false hD)] at fg
        subst fg
        simp_arith only [s1, lit_minus, q1, lit_e, q0]
    · rw [decide_eq_false h0] at q0
      have hp : 1 ≤ (figL l).length := Nat.pos_of_ne_zero fun z => h0 (List.length_eq_zero_iff.mp z)
      by_cases h3 : 30 < k
      · have k2 : decide (30 < k) = true := decide_eq_true h3
        generalize tS (figL l) = G at *
        unfold phi_law_number_due b_law_number_due oI
        cases dq with
        | true =>
          rw [if_pos (of_decide_eq_true hD)] at fg
          rw [fg] at s2
          simp_arith only [s1, s2, lit_minus, q1, lit_e, q0, ln, k2]
        | false =>
          rw [if_neg (of_decide_eq_false hD)] at fg
          subst fg
          simp_arith only [s1, lit_minus, q1, lit_e, q0, ln, k2]
      · have k2 : decide (30 < k) = false := decide_eq_false h3
        have nf : figs (figL l) = false := by
          cases hf : figs (figL l) with
          | false => rfl
          | true => exact absurd ⟨⟨hp, by omega⟩, hf⟩ hw
        rw [nf] at nb
        generalize (badF (figL l)).map (fun c => D.str (tS [c])) = BL at *
        generalize tS (figL l) = G at *
        unfold phi_law_number_due b_law_number_due oI
        cases dq with
        | true =>
          rw [if_pos (of_decide_eq_true hD)] at fg
          rw [fg] at s2
          simp_arith only [s1, s2, lit_minus, q1, lit_e, q0, ln, k2, lc, nb]
        | false =>
          rw [if_neg (of_decide_eq_false hD)] at fg
          subst fg
          simp_arith only [s1, lit_minus, q1, lit_e, q0, ln, k2, lc, nb]
/-! words of a text -/
def spl1 (c : Nat) : List Nat → List (List Nat)
  | [] => [[]]
  | x :: l => if x = c then [] :: spl1 c l else match spl1 c l with
    | [] => [[x]]
    | p :: ps => (x :: p) :: ps
theorem spl1_ne (c : Nat) : ∀ l, spl1 c l ≠ []
  | [] => by unfold spl1; simp
  | x :: l => by
    unfold spl1
    split
    · simp
    · split <;> simp
theorem spl1_free (c : Nat) : ∀ (l p : List Nat), p ∈ spl1 c l → c ∉ p
  | [], p, h => by
    unfold spl1 at h
    rw [List.mem_singleton.mp h]
    exact fun z => nomatch z
  | x :: l, p, h => by
    unfold spl1 at h
    split at h
    · rcases List.mem_cons.mp h with rfl | h
      · exact fun z => nomatch z
      · exact spl1_free c l p h
    · rename_i hx
      split at h
      · rw [List.mem_singleton.mp h]
        intro z
        exact hx (List.mem_singleton.mp z).symm
      · rename_i q ps e
        rcases List.mem_cons.mp h with rfl | h
        · intro z
          rcases List.mem_cons.mp z with z | z
          · exact hx z.symm
          · exact spl1_free c l q (by rw [e]; exact List.mem_cons_self) z
        · exact spl1_free c l p (by rw [e]; exact List.mem_cons_of_mem _ h)
theorem spl1_join (c : Nat) : ∀ l, joinL [c] (spl1 c l) = l
  | [] => rfl
  | x :: l => by
    have ih := spl1_join c l
    have ne := spl1_ne c l
    unfold spl1
    split
    · rename_i hx
      subst hx
      cases e : spl1 x l with
      | nil => exact absurd e ne
      | cons p ps =>
        rw [e] at ih
        show [] ++ ([x] ++ joinL [x] (p :: ps)) = x :: l
        rw [ih]
        rfl
    · split
      · rename_i e
        exact absurd e ne
      · rename_i p ps e
        rw [e] at ih
        cases ps with
        | nil =>
          have ih : p = l := ih
          rw [← ih]
          rfl
        | cons q r =>
          have ih : p ++ ([c] ++ joinL [c] (q :: r)) = l := ih
          show (x :: p) ++ ([c] ++ joinL [c] (q :: r)) = x :: l
          rw [← ih]
          rfl
theorem spl1_mem {c : Nat} : ∀ (l p : List Nat), p ∈ spl1 c l → (∀ x ∈ p, x ∈ l) ∧ p.length ≤ l.length
  | [], p, h => by
    unfold spl1 at h
    rw [List.mem_singleton.mp h]
    exact ⟨fun _ z => z, Nat.le_refl _⟩
  | x :: l, p, h => by
    unfold spl1 at h
    split at h
    · rcases List.mem_cons.mp h with rfl | h
      · exact ⟨(fun _ z => nomatch z), Nat.zero_le _⟩
      · obtain ⟨h1, h2⟩ := spl1_mem l p h
        exact ⟨fun y hy => List.mem_cons_of_mem _ (h1 y hy), Nat.le_succ_of_le h2⟩
    · split at h
      · rw [List.mem_singleton.mp h]
        refine ⟨fun y hy => by rw [List.mem_singleton.mp hy]; exact List.mem_cons_self, ?_⟩
        show 1 ≤ l.length + 1
        omega
      · rename_i q ps e
        rcases List.mem_cons.mp h with rfl | h
        · obtain ⟨h1, h2⟩ := spl1_mem (c := c) l q (by rw [e]; exact List.mem_cons_self)
          refine ⟨fun y hy => ?_, Nat.succ_le_succ h2⟩
          rcases List.mem_cons.mp hy with rfl | hy
          · exact List.mem_cons_self
          · exact List.mem_cons_of_mem _ (h1 y hy)
        · obtain ⟨h1, h2⟩ := spl1_mem (c := c) l p (by rw [e]; exact List.mem_cons_of_mem _ h)
          exact ⟨fun y hy => List.mem_cons_of_mem _ (h1 y hy), Nat.le_succ_of_le h2⟩
theorem spl1_len (c : Nat) : ∀ l, (spl1 c l).length ≤ l.length + 1
  | [] => Nat.le_refl _
  | x :: l => by
    have ih := spl1_len c l
    unfold spl1
    split
    · rw [List.length_cons, List.length_cons]
      omega
    · split
      · rw [List.length_cons, List.length_cons, List.length_nil]
        omega
      · rename_i p ps e
        rw [e, List.length_cons] at ih
        rw [List.length_cons, List.length_cons]
        omega
def wdD (L : List (List Nat)) : List D := L.map fun l => .str (tS l)
theorem split_x {c : Nat} {l : List Nat} (hc : c < 256) (hl : l.length ≤ 900000) : gSplit (.str (tS l)) [.str (tS [c])] = some (.fr (wdD (spl1 c l))) := by
  have ej : Txt.join (tS [c]) ((spl1 c l).map tS) = tS l := by
    refine ext_tl ?_
    rw [join_eq, tl_join, List.map_map]
    show joinL [c] ((spl1 c l).map fun l => l) = l
    rw [List.map_id']
    exact spl1_join c l
  rw [e_split ⟨by rw [tS_len]; rfl, by rw [tS_len]; omega⟩]
  conv => lhs; rw [← ej]
  rw [split_join (s := c) (S := []) rfl (by
    show (#[c] : Array Nat).all (fun x => decide (x < 256)) = true
    simp
    exact hc) (fun e => spl1_ne c l (List.map_eq_nil_iff.mp e)) (fun p hp => by
    obtain ⟨q, hq, rfl⟩ := List.mem_map.mp hp
    exact spl1_free c l q hq), List.map_map]
  rfl
/-! places -/
instance (p q : Int) : Decidable (PlOk p q) := by unfold PlOk; infer_instance
def plS (a b : List Nat) : Option (Int × Int) := match numS 30 a with
  | none => none
  | some p => match numS 30 b with
    | none => none
    | some q => if PlOk p q then some (p, q) else none
def plT (l : List Nat) : Option (Int × Int) := match spl1 47 l with
  | [a, b] => plS a b
  | _ => none
def oP : Option (Int × Int) → Option CR
  | some q => some (.ret (.sh (PP q)) [])
  | none => some (.exc 11 [])
theorem num_free {l : List Nat} (h : 47 ∈ l) : numS 30 l = none := by
  rw [numS_30]
  by_cases hw : FigW l
  · exfalso
    have hf := hw.2
    have m : 47 ∈ figL l := by
      unfold figL
      split
      · rename_i h1
        have e := sgn_of h1
        rw [e] at h
        rcases List.mem_cons.mp h with z | z
        · exact absurd z (by decide)
        · unfold figL at z
          rw [if_pos h1] at z
          exact z
      · exact h
    have := List.all_eq_true.mp hf 47 m
    exact absurd this (by decide)
  · rw [if_neg hw]
theorem read_both {a b : List Nat} {t : D} {l : List Nat} (ha : sOk a) (hb : sOk b) (la : a.length ≤ 900000) (lb : b.length ≤ 900000) (hp : gPartn (.str (tS l)) [.str "/"] = some (.sh (.tup [.str (tS a), t, .str (tS b)]))) :
    phi_read_place [.str (tS l)] = oP (plS a b) := by
  unfold plS
  cases ea : numS 30 a with
  | none =>
    have ra := read_no ea ha la
    show _ = some (CR.exc 11 [])
    unfold phi_read_place b_read_place
    simp_arith only [isStr_str, hp, ra]
  | some p =>
    have ra := read_num ea
    cases eb : numS 30 b with
    | none =>
      have rb := read_no eb hb lb
      show _ = some (CR.exc 11 [])
      unfold phi_read_place b_read_place
      simp_arith only [isStr_str, hp, ra, rb]
    | some q =>
      have rb := read_num eb
      have g := @common_ok' p q
      show _ = oP (if PlOk p q then some (p, q) else none)
      by_cases c1 : q < 0
      · rw [if_neg (fun z => by have := z.1; omega)]
        have d1 : decide (q < 0) = true := decide_eq_true c1
        show _ = some (CR.exc 11 [])
        unfold phi_read_place b_read_place
        simp_arith only [isStr_str, hp, ra, rb, d1, sRaise]
      · have d1 : decide (q < 0) = false := decide_eq_false c1
        by_cases c2 : Int.gcd p q = 1
        · rw [c2] at g
          have o1 : (((1 : Nat) : Int)) = 1 := rfl
          by_cases c3 : q = 0
          · by_cases c4 : p = 1
            · rw [if_pos ⟨by omega, c2, fun _ => c4⟩]
              show _ = some (CR.ret (.sh (P2 p q)) [])
              subst c3
              subst c4
              unfold phi_read_place b_read_place
              simp_arith only [isStr_str, hp, ra, rb, d1, g, o1]
            · rw [if_neg (fun z => c4 (z.2.2 c3))]
              show _ = some (CR.exc 11 [])
              subst c3
              have d4 : decide (p = 1) = false := decide_eq_false c4
              unfold phi_read_place b_read_place
              simp_arith only [isStr_str, hp, ra, rb, d1, g, o1, d4, sRaise]
          · rw [if_pos ⟨by omega, c2, fun z => absurd z c3⟩]
            have d3 : decide (q = 0) = false := decide_eq_false c3
            show _ = some (CR.ret (.sh (P2 p q)) [])
            unfold phi_read_place b_read_place
            simp_arith only [isStr_str, hp, ra, rb, d1, g, o1, d3]
        · rw [if_neg (fun z => c2 z.2.1)]
          have d2 : decide (((Int.gcd p q : Nat) : Int) = 1) = false := decide_eq_false (by omega)
          show _ = some (CR.exc 11 [])
          unfold phi_read_place b_read_place
          simp_arith only [isStr_str, hp, ra, rb, d1, g, d2, sRaise]
theorem read_x {l : List Nat} (hs : sOk l) (hl : l.length ≤ 900000) : phi_read_place [.str (tS l)] = oP (plT l) := by
  have ej := spl1_join 47 l
  have fr := spl1_free 47 l
  have mm := spl1_mem (c := 47) l
  unfold plT
  cases e : spl1 47 l with
  | nil => exact absurd e (spl1_ne 47 l)
  | cons a r =>
    rw [e] at ej fr mm
    have fa := fr a List.mem_cons_self
    have ma := mm a List.mem_cons_self
    have sa : sOk a := fun c hc => hs c (ma.1 c hc)
    cases r with
    | nil =>
      have ej : a = l := ej
      have hp : gPartn (.str (tS l)) [.str "/"] = some (.sh (.tup [.str (tS l), .str (tS []), .str (tS [])])) := by
        rw [lit_sl, e_partn ⟨by rw [tS_len]; rfl, by rw [tS_len]; omega⟩, partition_none (y := tS [47]) (s := 47) (S := []) rfl (by rw [← ej]; exact fa)]
        rfl
      have rb := read_both hs (b := []) (fun _ h => nomatch h) hl (by decide) hp
      rw [rb]
      show oP (plS l []) = oP none
      congr 1
      unfold plS
      cases numS 30 l with
      | none => rfl
      | some p => rfl
    | cons b r =>
      have mb := mm b (List.mem_cons_of_mem _ List.mem_cons_self)
      have el : l = a ++ 47 :: joinL [47] (b :: r) := ej.symm
      have ll : l.length = a.length + ((joinL [47] (b :: r)).length + 1) := by
        conv => lhs; rw [el]
        rw [List.length_append, List.length_cons]
      have hp := part_sl (a := a) (b := joinL [47] (b :: r)) fa (by omega)
      rw [← el] at hp
      have sj : sOk (joinL [47] (b :: r)) := fun c hc => hs c (by rw [el]; exact List.mem_append_right _ (List.mem_cons_of_mem _ hc))
      rw [read_both sa sj (by omega) (by omega) hp]
      cases r with
      | nil => rfl
      | cons b2 r =>
        show oP (plS a (b ++ ([47] ++ joinL [47] (b2 :: r)))) = oP none
        congr 1
        unfold plS
        rw [num_free (l := b ++ ([47] ++ joinL [47] (b2 :: r))) (List.mem_append_right _ List.mem_cons_self)]
        cases numS 30 a with
        | none => rfl
        | some p => rfl
/-! k85: places and walks as they are due, and as they are read -/
open TL
open PySem.NumText (AllDigits digitsVal)
theorem isN_i {p : Int} : gIsN (.int p) .non = some (.sh (.bl false)) := rfl
theorem isN_t {l : List D} : gIsN (.tup l) .non = some (.sh (.bl false)) := rfl
theorem isN_l {l : List D} : gIsN (.lst l) .non = some (.sh (.bl false)) := rfl
theorem isN_n : gIsN .non .non = some (.sh (.bl true)) := rfl
def oPd : Option (Int × Int) → D
  | some q => PP q
  | none => .non
theorem pdue_x {l : List Nat} (hs : sOk l) (hl : l.length ≤ 900000) : phi_law_place_due [.str (tS l)] = some (.ret (.sh (oPd (plT l))) []) := by
  have sx := split_x (c := 47) (by decide) hl
  have mm := spl1_mem (c := 47) l
  unfold plT
  cases e : spl1 47 l with
  | nil => exact absurd e (spl1_ne 47 l)
  | cons a r =>
    rw [e] at sx mm
    cases r with
    | nil =>
      have sx : gSplit (.str (tS l)) [.str (tS [47])] = some (.fr [.str (tS a)]) := sx
      show _ = some (CR.ret (.sh .non) [])
      unfold phi_law_place_due b_law_place_due
      simp_arith only [lit_sl, sx]
    | cons b r =>
      cases r with
      | cons b2 r =>
        have sx : gSplit (.str (tS l)) [.str (tS [47])] = some (.fr (.str (tS a) :: .str (tS b) :: .str (tS b2) :: wdD r)) := sx
        have d : decide ((((.str (tS a) :: .str (tS b) :: .str (tS b2) :: wdD r : List D).length : Nat) : Int) = 2) = false := decide_eq_false (by
          rw [List.length_cons, List.length_cons, List.length_cons]
          omega)
        show _ = some (CR.ret (.sh .non) [])
        generalize (.str (tS a) :: .str (tS b) :: .str (tS b2) :: wdD r : List D) = L at *
        unfold phi_law_place_due b_law_place_due
        simp_arith only [lit_sl, sx, d]
      | nil =>
        have sx : gSplit (.str (tS l)) [.str (tS [47])] = some (.fr [.str (tS a), .str (tS b)]) := sx
        have ma := mm a List.mem_cons_self
        have mb := mm b (List.mem_cons_of_mem _ List.mem_cons_self)
        have da := due_x (l := a) (fun c hc => hs c (ma.1 c hc)) (by omega)
        have db := due_x (l := b) (fun c hc => hs c (mb.1 c hc)) (by omega)
        have lc := vLc_sh (vs := [4]) (it := iLs (oOf (vVar 1))) (ds := [.str (tS a), .str (tS b)]) (g := gN 4) (c := lc_law_place_due_1) (elt := le_law_place_due_1) (p := fun _ => true) (f := fun d => match d with | .str s => oI (numS 30 (tl s)) | _ => .non)
          (ρ := [some (.sh (.str (tS l))), some (.sh (.lst [.str (tS a), .str (tS b)])), none, none, none]) (ρ0 := [some (.sh (.str (tS l))), some (.fr [.str (tS a), .str (tS b)]), none, none, none]) (by simp_arith only []) (noFr_1 rfl (fun c h => nomatch h)) (fun d hd => by
            refine ⟨[some (.sh (.str (tS l))), some (.sh (.lst [.str (tS a), .str (tS b)])), none, none, some (.sh d)], rfl, rfl, rfl, rfl, fun _ => ?_⟩
            rcases List.mem_cons.mp hd with rfl | hd
            · show _ = some (Out.ok (SV.sh (oI (numS 30 a))) _)
              unfold le_law_place_due_1
              simp_arith only [da]
            · rw [List.mem_singleton] at hd
              subst hd
              show _ = some (Out.ok (SV.sh (oI (numS 30 b))) _)
              unfold le_law_place_due_1
              simp_arith only [db]) (by show 2 ≤ 1000000; decide)
        rw [filter_true'] at lc
        have lc : vLc [4] (iLs (oOf (vVar 1))) (gN 4) lc_law_place_due_1 le_law_place_due_1 [some (.sh (.str (tS l))), some (.fr [.str (tS a), .str (tS b)]), none, none, none] = some (.ok (.fr [oI (numS 30 a), oI (numS 30 b)]) [some (.sh (.str (tS l))), some (.sh (.lst [.str (tS a), .str (tS b)])), none, none, none]) := lc
        show _ = some (CR.ret (.sh (oPd (plS a b))) [])
        unfold plS
        cases ea : numS 30 a with
        | none =>
          rw [ea] at lc
          show _ = some (CR.ret (.sh .non) [])
          cases eb : numS 30 b with
          | none =>
            rw [eb] at lc
            unfold oI at lc
            unfold phi_law_place_due b_law_place_due
            simp_arith only [lit_sl, sx, lc, gLs, List.length_cons, List.length_nil, isN_i]
          | some q =>
            rw [eb] at lc
            unfold oI at lc
            unfold phi_law_place_due b_law_place_due
            simp_arith only [lit_sl, sx, lc, gLs, List.length_cons, List.length_nil, isN_i]
        | some p =>
          rw [ea] at lc
          cases eb : numS 30 b with
          | none =>
            rw [eb] at lc
            unfold oI at lc
            show _ = some (CR.ret (.sh .non) [])
            unfold phi_law_place_due b_law_place_due
            simp_arith only [lit_sl, sx, lc, gLs, List.length_cons, List.length_nil, isN_i]
          | some q =>
            rw [eb] at lc
            unfold oI at lc
            have g := @common_ok p q
            show _ = some (CR.ret (.sh (oPd (if PlOk p q then some (p, q) else none))) [])
            by_cases c2 : Int.gcd p q = 1
            · rw [c2] at g
              have o1 : (((1 : Nat) : Int)) = 1 := rfl
              by_cases c1 : q < 0
              · rw [if_neg (fun z => by have := z.1; omega)]
                have d1 : decide (q < 0) = true := decide_eq_true c1
                show _ = some (CR.ret (.sh .non) [])
                unfold phi_law_place_due b_law_place_due
                simp_arith only [lit_sl, sx, lc, gLs, List.length_cons, List.length_nil, isN_i, g, o1, d1]
              · have d1 : decide (q < 0) = false := decide_eq_false c1
                by_cases c3 : q = 0
                · by_cases c4 : p = 1
                  · rw [if_pos ⟨by omega, c2, fun _ => c4⟩]
                    show _ = some (CR.ret (.sh (P2 p q)) [])
                    subst c3
                    subst c4
                    unfold phi_law_place_due b_law_place_due
                    simp_arith only [lit_sl, sx, lc, gLs, List.length_cons, List.length_nil, isN_i, g, o1, d1]
                  · rw [if_neg (fun z => c4 (z.2.2 c3))]
                    show _ = some (CR.ret (.sh .non) [])
                    subst c3
                    have d4 : decide (p = 1) = false := decide_eq_false c4
                    unfold phi_law_place_due b_law_place_due
                    simp_arith only [lit_sl, sx, lc, gLs, List.length_cons, List.length_nil, isN_i, g, o1, d1, d4]
                · rw [if_pos ⟨by omega, c2, fun z => absurd z c3⟩]
                  have d3 : decide (q = 0) = false := decide_eq_false c3
                  show _ = some (CR.ret (.sh (P2 p q)) [])
                  unfold phi_law_place_due b_law_place_due
                  simp_arith only [lit_sl, sx, lc, gLs, List.length_cons, List.length_nil, isN_i, g, o1, d1, d3]
            · rw [if_neg (fun z => c2 z.2.1)]
              have d2 : decide (((Int.gcd p q : Nat) : Int) = 1) = false := decide_eq_false (by omega)
              show _ = some (CR.ret (.sh .non) [])
              unfold phi_law_place_due b_law_place_due
              simp_arith only [lit_sl, sx, lc, gLs, List.length_cons, List.length_nil, isN_i, g, d2]
/-! walks -/
def allP : List (List Nat) → Option (List (Int × Int))
  | [] => some []
  | w :: ws => match plT w with
    | none => none
    | some q => (allP ws).map (q :: ·)
def walkT (l : List Nat) : Option (List (Int × Int)) := if 2 ≤ (spl1 32 l).length ∧ (spl1 32 l).length ≤ 12 then allP (spl1 32 l) else none
theorem lcE_x {s0 s1 : Option SV} : ∀ (ws : List (List Nat)) (acc : List D) (v : Option SV), (∀ w ∈ ws, sOk w ∧ w.length ≤ 900000) → acc.length + ws.length ≤ 1000 →
    ∃ v', lcLE [2] [] (gN 2) lc_read_walk_1 le_read_walk_1 (wdD ws) acc [s0, s1, v] = match allP ws with | some W => some (.ok (acc ++ W.map PP) [s0, s1, v']) | none => some (.ex 11 [s0, s1, v'])
  | [], acc, v, _, _ => by
    refine ⟨v, ?_⟩
    show lcLE [2] [] (gN 2) lc_read_walk_1 le_read_walk_1 [] acc [s0, s1, v] = some (Out.ok (acc ++ []) [s0, s1, v])
    rw [lcLE, if_pos (show pkOk [] (wipeS [s0, s1, v] [2]) from fun _ h => nomatch h), List.append_nil]
  | w :: ws, acc, v, h, hl => by
    rw [List.length_cons] at hl
    obtain ⟨hs, hw⟩ := h w List.mem_cons_self
    have rx := read_x hs hw
    have st : lcLE [2] [] (gN 2) lc_read_walk_1 le_read_walk_1 (wdD (w :: ws)) acc [s0, s1, v] = match le_read_walk_1 [s0, s1, some (.sh (.str (tS w)))] with
        | some (.ok sv ρ3) => lcLE [2] [] (gN 2) lc_read_walk_1 le_read_walk_1 (wdD ws) (acc ++ [sv.d]) ρ3
        | some (.ex cx ρ3) => some (.ex cx ρ3)
        | none => none := by
      show lcLE [2] [] (gN 2) lc_read_walk_1 le_read_walk_1 (.str (tS w) :: wdD ws) acc [s0, s1, v] = _
      rw [lcLE, if_pos (show pkOk [] (wipeS [s0, s1, v] [2]) ∧ acc.length < 1000000 from ⟨(fun _ h => nomatch h), by omega⟩)]
      rfl
    rw [st]
    unfold allP
    cases e : plT w with
    | none =>
      rw [e] at rx
      have rx : phi_read_place [.str (tS w)] = some (.exc 11 []) := rx
      have le : le_read_walk_1 [s0, s1, some (.sh (.str (tS w)))] = some (.ex 11 [s0, s1, some (.sh (.str (tS w)))]) := by
        unfold le_read_walk_1
        simp_arith only [rx]
      exact ⟨some (.sh (.str (tS w))), by rw [le]⟩
    | some q =>
      rw [e] at rx
      have rx : phi_read_place [.str (tS w)] = some (.ret (.sh (PP q)) []) := rx
      have le : le_read_walk_1 [s0, s1, some (.sh (.str (tS w)))] = some (.ok (.sh (PP q)) [s0, s1, some (.sh (.str (tS w)))]) := by
        unfold le_read_walk_1
        simp_arith only [rx]
      rw [le]
      obtain ⟨v', e'⟩ := lcE_x (s0 := s0) (s1 := s1) ws (acc ++ [PP q]) (some (.sh (.str (tS w)))) (fun x hx => h x (List.mem_cons_of_mem _ hx)) (by rw [List.length_append]; show acc.length + 1 + _ ≤ _; omega)
      refine ⟨v', ?_⟩
      show lcLE _ _ _ _ _ (wdD ws) (acc ++ [PP q]) _ = _
      rw [e']
      cases allP ws with
      | none => rfl
      | some W =>
        show some (Out.ok ((acc ++ [PP q]) ++ W.map PP) _) = some (Out.ok (acc ++ (PP q :: W.map PP)) _)
        rw [List.append_assoc]
        rfl
theorem wdD_len {L : List (List Nat)} : (wdD L).length = L.length := List.length_map _
theorem word_ok {c : Nat} {l : List Nat} (hs : sOk l) (hl : l.length ≤ 900000) : ∀ w ∈ spl1 c l, sOk w ∧ w.length ≤ 900000 := fun w hw => by
  obtain ⟨h1, h2⟩ := spl1_mem l w hw
  exact ⟨fun x hx => hs x (h1 x hx), by omega⟩
theorem walk_x {l : List Nat} (hs : sOk l) (hl : l.length ≤ 900000) : phi_read_walk [.str (tS l)] = match walkT l with | some W => some (.ret (.fr (W.map PP)) []) | none => some (.exc 11 []) := by
  have sx := split_x (c := 32) (by decide) hl
  have wk := word_ok (c := 32) hs hl
  unfold walkT
  have ln : ((wdD (spl1 32 l)).length : Int) = ((spl1 32 l).length : Nat) := by rw [wdD_len]
  by_cases h1 : 2 ≤ (spl1 32 l).length
  · have c1 : decide ((2 : Int) ≤ ((spl1 32 l).length : Nat)) = true := decide_eq_true (by omega)
    by_cases h2 : (spl1 32 l).length ≤ 12
    · have c2 : decide (((spl1 32 l).length : Int) ≤ 12) = true := decide_eq_true (by omega)
      rw [if_pos ⟨h1, h2⟩]
      obtain ⟨v', e⟩ := lcE_x (s0 := some (.sh (.str (tS l)))) (s1 := some (.sh (.lst (wdD (spl1 32 l))))) (spl1 32 l) [] none wk (by rw [List.length_nil]; omega)
      have hi : iLs (oOf (vVar 1)) [some (.sh (.str (tS l))), some (.fr (wdD (spl1 32 l))), none] = some (.ok ⟨wdD (spl1 32 l), []⟩ [some (.sh (.str (tS l))), some (.sh (.lst (wdD (spl1 32 l)))), none]) := by
        generalize wdD (spl1 32 l) = X at *
        simp_arith only []
      have lc : vLcE [2] (iLs (oOf (vVar 1))) (gN 2) lc_read_walk_1 le_read_walk_1 [some (.sh (.str (tS l))), some (.fr (wdD (spl1 32 l))), none] = (lcLE [2] [] (gN 2) lc_read_walk_1 le_read_walk_1 (wdD (spl1 32 l)) [] [some (.sh (.str (tS l))), some (.sh (.lst (wdD (spl1 32 l)))), none]).map (lcOut [some (.sh (.str (tS l))), some (.sh (.lst (wdD (spl1 32 l)))), none] [2]) := by
        unfold vLcE
        rw [bnd_ok hi]
        exact if_pos ⟨noFr_1 rfl (fun c h => nomatch h), (fun _ h => nomatch h), fun _ h => nomatch h⟩
      rw [e] at lc
      cases ea : allP (spl1 32 l) with
      | none =>
        rw [ea] at lc
        have lc : vLcE [2] (iLs (oOf (vVar 1))) (gN 2) lc_read_walk_1 le_read_walk_1 [some (.sh (.str (tS l))), some (.fr (wdD (spl1 32 l))), none] = some (.ex 11 [some (.sh (.str (tS l))), some (.sh (.lst (wdD (spl1 32 l)))), none]) := lc
        show _ = some (CR.exc 11 [])
        generalize wdD (spl1 32 l) = X at *
        generalize (((spl1 32 l).length : Nat) : Int) = k at *
        unfold phi_read_walk b_read_walk
        simp_arith only [isStr_str, lit_bl, sx, ln, c1, c2, lc]
      | some W =>
        rw [ea] at lc
        have lc : vLcE [2] (iLs (oOf (vVar 1))) (gN 2) lc_read_walk_1 le_read_walk_1 [some (.sh (.str (tS l))), some (.fr (wdD (spl1 32 l))), none] = some (.ok (.fr (W.map PP)) [some (.sh (.str (tS l))), some (.sh (.lst (wdD (spl1 32 l)))), none]) := lc
        show _ = some (CR.ret (.fr (W.map PP)) [])
        generalize W.map PP = V at *
        generalize wdD (spl1 32 l) = X at *
        generalize (((spl1 32 l).length : Nat) : Int) = k at *
        unfold phi_read_walk b_read_walk
        simp_arith only [isStr_str, lit_bl, sx, ln, c1, c2, lc]
    · have c2 : decide (((spl1 32 l).length : Int) ≤ 12) = false := decide_eq_false (by omega)
      rw [if_neg (fun z => h2 z.2)]
      show _ = some (CR.exc 11 [])
      generalize wdD (spl1 32 l) = X at *
      generalize (((spl1 32 l).length : Nat) : Int) = k at *
      unfold phi_read_walk b_read_walk
      simp_arith only [isStr_str, lit_bl, sx, ln, c1, c2, sRaise]
  · have c1 : decide ((2 : Int) ≤ ((spl1 32 l).length : Nat)) = false := decide_eq_false (by omega)
    rw [if_neg (fun z => h1 z.1)]
    show _ = some (CR.exc 11 [])
    generalize wdD (spl1 32 l) = X at *
    generalize (((spl1 32 l).length : Nat) : Int) = k at *
    unfold phi_read_walk b_read_walk
    simp_arith only [isStr_str, lit_bl, sx, ln, c1, e_chain, sRaise]
/-! the law's look at a walk -/
theorem okPy_pds (ws : List (List Nat)) : okPy (.lst (ws.map fun w => oPd (plT w))) = true := by
  have h := okPy_all (k := 1) (by decide) (l := ws.map fun w => oPd (plT w)) (by
    intro d hd
    obtain ⟨x, _, rfl⟩ := List.mem_map.mp hd
    cases plT x with
    | none => exact ⟨rfl, Nat.zero_le 1⟩
    | some q => exact ⟨rfl, Nat.le_refl 1⟩)
  refine okPy_of h.1 ?_
  show PyData.depthAll _ + 1 ≤ 64
  omega
theorem eqP_non {q : Int × Int} : eqD (PP q) .non = false := rfl
theorem any_non : ∀ ws : List (List Nat), ((ws.map fun w => oPd (plT w)).any fun z => eqD z .non) = (allP ws).isNone
  | [] => rfl
  | w :: ws => by
    have ih := any_non ws
    unfold allP
    rw [List.map_cons, List.any_cons, ih]
    cases plT w with
    | none => rfl
    | some q =>
      show (eqD (PP q) .non || (allP ws).isNone) = ((allP ws).map (q :: ·)).isNone
      rw [eqP_non]
      cases allP ws <;> rfl
theorem in_non (ws : List (List Nat)) : gInS false .non (.lst (ws.map fun w => oPd (plT w))) = some (.sh (.bl (allP ws).isNone)) := by
  show (if okPy .non = true ∧ okPy (.lst (ws.map fun w => oPd (plT w))) = true then some (SV.sh (.bl (false ^^ (ws.map fun w => oPd (plT w)).any fun z => eqD z .non))) else none) = _
  rw [if_pos ⟨rfl, okPy_pds ws⟩, any_non, Bool.false_xor]
theorem pds_all : ∀ {ws : List (List Nat)} {W : List (Int × Int)}, allP ws = some W → (ws.map fun w => oPd (plT w)) = W.map PP
  | [], W, h => by
    cases h
    rfl
  | w :: ws, W, h => by
    unfold allP at h
    cases e : plT w with
    | none => rw [e] at h; cases h
    | some q =>
      rw [e] at h
      obtain ⟨V, h1, rfl⟩ := Option.map_eq_some_iff.mp h
      rw [List.map_cons, pds_all h1, e]
      rfl
def oW : Option (List (Int × Int)) → SV
  | some W => .fr (W.map PP)
  | none => .sh .non
theorem wdue_x {l : List Nat} (hs : sOk l) (hl : l.length ≤ 900000) : phi_law_walk_due [.str (tS l)] = some (.ret (oW (walkT l)) []) := by
  have sx := split_x (c := 32) (by decide) hl
  have wk := word_ok (c := 32) hs hl
  have sl := spl1_len 32 l
  have lc := vLc_sh (vs := [2]) (it := iLs (oOf (vMp ckS gSplit (oPk 0) (aCons (oOf (vC (.str " "))) aNil)))) (ds := wdD (spl1 32 l)) (g := gN 2) (c := lc_law_walk_due_1) (elt := le_law_walk_due_1) (p := fun _ => true) (f := fun d => match d with | .str s => oPd (plT (tl s)) | _ => .non)
    (ρ := [some (.sh (.str (tS l))), none, none]) (ρ0 := [some (.sh (.str (tS l))), none, none]) (by
      generalize wdD (spl1 32 l) = X at *
      simp_arith only [lit_bl, sx]) (noFr_1 rfl (fun c h => nomatch h)) (fun d hd => by
      obtain ⟨w, hw, rfl⟩ := List.mem_map.mp hd
      have e := pdue_x (wk w hw).1 (wk w hw).2
      refine ⟨[some (.sh (.str (tS l))), none, some (.sh (.str (tS w)))], rfl, rfl, rfl, rfl, fun _ => ?_⟩
      show _ = some (Out.ok (SV.sh (oPd (plT w))) _)
      unfold le_law_walk_due_1
      simp_arith only [e]) (by rw [wdD_len]; omega)
  rw [filter_true'] at lc
  have e1 : (wdD (spl1 32 l)).map (fun d => match d with | .str s => oPd (plT (tl s)) | _ => .non) = (spl1 32 l).map fun w => oPd (plT w) := by
    unfold wdD
    rw [List.map_map]
    rfl
  rw [e1] at lc
  have inn := in_non (spl1 32 l)
  have ln : (((spl1 32 l).map fun w => oPd (plT w)).length : Int) = ((spl1 32 l).length : Nat) := by rw [List.length_map]
  unfold walkT
  cases ea : allP (spl1 32 l) with
  | none =>
    rw [ea] at inn
    have inn : gInS false .non (.lst ((spl1 32 l).map fun w => oPd (plT w))) = some (.sh (.bl true)) := inn
    have r : (if 2 ≤ (spl1 32 l).length ∧ (spl1 32 l).length ≤ 12 then (none : Option (List (Int × Int))) else none) = none := by split <;> rfl
    rw [r]
    show _ = some (CR.ret (.sh .non) [])
    clear e1
    generalize ((spl1 32 l).map fun w => oPd (plT w)) = X at *
    unfold phi_law_walk_due b_law_walk_due
    simp_arith only [lc, inn]
  | some W =>
    rw [ea] at inn
    rw [pds_all ea] at inn lc ln
    have inn : gInS false .non (.lst (W.map PP)) = some (.sh (.bl false)) := inn
    clear e1
    show _ = some (CR.ret (oW (if 2 ≤ (spl1 32 l).length ∧ (spl1 32 l).length ≤ 12 then some W else none)) [])
    by_cases h1 : 2 ≤ (spl1 32 l).length
    · have c1 : decide ((2 : Int) ≤ ((spl1 32 l).length : Nat)) = true := decide_eq_true (by omega)
      by_cases h2 : (spl1 32 l).length ≤ 12
      · have c2 : decide (((spl1 32 l).length : Int) ≤ 12) = true := decide_eq_true (by omega)
        rw [if_pos ⟨h1, h2⟩]
        show _ = some (CR.ret (.fr (W.map PP)) [])
        generalize W.map PP = X at *
        generalize (((spl1 32 l).length : Nat) : Int) = k at *
        unfold phi_law_walk_due b_law_walk_due
        simp_arith only [lc, inn, ln, c1, c2]
      · have c2 : decide (((spl1 32 l).length : Int) ≤ 12) = false := decide_eq_false (by omega)
        rw [if_neg (fun z => h2 z.2)]
        show _ = some (CR.ret (.sh .non) [])
        generalize W.map PP = X at *
        generalize (((spl1 32 l).length : Nat) : Int) = k at *
        unfold phi_law_walk_due b_law_walk_due
        simp_arith only [lc, inn, ln, c1, c2]
    · have c1 : decide ((2 : Int) ≤ ((spl1 32 l).length : Nat)) = false := decide_eq_false (by omega)
      rw [if_neg (fun z => h1 z.1)]
      show _ = some (CR.ret (.sh .non) [])
      generalize W.map PP = X at *
      generalize (((spl1 32 l).length : Nat) : Int) = k at *
      unfold phi_law_walk_due b_law_walk_due
      simp_arith only [lc, inn, ln, c1, e_chain]
/-! k85: what is asked -/
open TL
open PySem.NumText (AllDigits digitsVal)
abbrev REF : D := .tup [.str "refused", .str "NoText"]
theorem te_asked {a : Addr} {s0 s1 : Option SV} : te_law_asked_1 11 a [s0, s1, some (.sh (.adr a))] = some (.rt (.sh REF) [s0, s1, some (.sh (.adr a))]) := by
  unfold te_law_asked_1
  simp_arith only [kind_NoText]
theorem asked_ex {w : Int} {d : D} (hb : tb_law_asked_1 [some (.sh (.int w)), some (.sh d), none] = some (.ex 11 [some (.sh (.int w)), some (.sh d), none])) : phi_law_asked [.int w, d] = some (.ret (.sh REF) []) := by
  have e : exTry [11] 2 te_law_asked_1 (some (.ex 11 [some (.sh (.int w)), some (.sh d), none])) = some (.rt (.sh REF) [some (.sh (.int w)), some (.sh d), none]) := by
    refine e_try (by decide) (show 2 < 3 by decide) fun a => ?_
    have h := @te_asked a (some (.sh (.int w))) (some (.sh d))
    show dropE 2 (te_law_asked_1 11 a [some (.sh (.int w)), some (.sh d), some (.sh (.adr a))]) = _
    rw [h]
    rfl
  have ht : sTry tb_law_asked_1 [11] 2 te_law_asked_1 [some (.sh (.int w)), some (.sh d), none] = some (.rt (.sh REF) [some (.sh (.int w)), some (.sh d), none]) := by
    unfold sTry
    rw [hb]
    exact e
  unfold phi_law_asked b_law_asked
  simp_arith only [ht]
theorem asked_rt {w : Int} {d : D} {sv : SV} (hb : tb_law_asked_1 [some (.sh (.int w)), some (.sh d), none] = some (.rt sv [some (.sh (.int w)), some (.sh d), none])) : phi_law_asked [.int w, d] = some (.ret sv []) := by
  have ht : sTry tb_law_asked_1 [11] 2 te_law_asked_1 [some (.sh (.int w)), some (.sh d), none] = some (.rt sv [some (.sh (.int w)), some (.sh d), none]) := by
    unfold sTry
    rw [hb]
    rfl
  unfold phi_law_asked b_law_asked
  simp_arith only [ht]
def oR : Option (Int × Int) → D
  | some q => PP q
  | none => REF
def oRW : Option (List (Int × Int)) → SV
  | some W => .fr (W.map PP)
  | none => .sh REF
theorem asked0_x {l : List Nat} (hs : sOk l) (hl : l.length ≤ 900000) : phi_law_asked [.int 0, .str (tS l)] = some (.ret (.sh (oR (plT l))) []) := by
  have r := read_x hs hl
  cases e : plT l with
  | none =>
    rw [e] at r
    have r : phi_read_place [.str (tS l)] = some (.exc 11 []) := r
    refine asked_ex ?_
    unfold tb_law_asked_1
    simp_arith only [r]
  | some q =>
    rw [e] at r
    have r : phi_read_place [.str (tS l)] = some (.ret (.sh (PP q)) []) := r
    refine asked_rt ?_
    show _ = some (SO.rt (.sh (PP q)) _)
    unfold tb_law_asked_1
    simp_arith only [r]
theorem asked1_x {l : List Nat} (hs : sOk l) (hl : l.length ≤ 900000) : phi_law_asked [.int 1, .str (tS l)] = some (.ret (oRW (walkT l)) []) := by
  have r := walk_x hs hl
  cases e : walkT l with
  | none =>
    rw [e] at r
    have r : phi_read_walk [.str (tS l)] = some (.exc 11 []) := r
    refine asked_ex ?_
    unfold tb_law_asked_1
    simp_arith only [r]
  | some W =>
    rw [e] at r
    have r : phi_read_walk [.str (tS l)] = some (.ret (.fr (W.map PP)) []) := r
    refine asked_rt ?_
    show _ = some (SO.rt (.fr (W.map PP)) _)
    generalize W.map PP = X at *
    unfold tb_law_asked_1
    simp_arith only [r]
theorem isStr_no {d : D} (h : gIs isStr d = some (.sh (.bl false))) : phi_law_asked [.int 0, d] = some (.ret (.sh REF) []) ∧ phi_law_asked [.int 1, d] = some (.ret (.sh REF) []) := by
  have r0 : phi_read_place [d] = some (.exc 11 []) := by
    unfold phi_read_place b_read_place
    simp_arith only [h, sRaise]
  have r1 : phi_read_walk [d] = some (.exc 11 []) := by
    unfold phi_read_walk b_read_walk
    simp_arith only [h, sRaise]
  constructor
  · refine asked_ex ?_
    unfold tb_law_asked_1
    simp_arith only [r0]
  · refine asked_ex ?_
    unfold tb_law_asked_1
    simp_arith only [r1]
theorem eq_ref : gEq REF REF = some (.sh (.bl true)) := eq_self' (by decide +kernel)
theorem ne_ref : gNe REF REF = some (.sh (.bl false)) := ne_self' (by decide +kernel)
theorem right0_x {l : List Nat} (hs : sOk l) (hl : l.length ≤ 900000) : phi_law_right [.int 0, .str (tS l)] = some (.ret (.sh (.bl true)) []) := by
  have p := pdue_x hs hl
  have w := wdue_x hs hl
  have a := asked0_x hs hl
  have er := eq_ref
  cases e : plT l with
  | none =>
    rw [e] at p a
    have p : phi_law_place_due [.str (tS l)] = some (.ret (.sh .non) []) := p
    have a : phi_law_asked [.int 0, .str (tS l)] = some (.ret (.sh REF) []) := a
    cases ew : walkT l with
    | none =>
      rw [ew] at w
      have w : phi_law_walk_due [.str (tS l)] = some (.ret (.sh .non) []) := w
      unfold phi_law_right b_law_right
      simp_arith only [p, w, isN_n, a, er]
    | some W =>
      rw [ew] at w
      have w : phi_law_walk_due [.str (tS l)] = some (.ret (.fr (W.map PP)) []) := w
      generalize W.map PP = X at *
      unfold phi_law_right b_law_right
      simp_arith only [p, w, isN_n, a, er]
  | some q =>
    rw [e] at p a
    have p : phi_law_place_due [.str (tS l)] = some (.ret (.sh (P2 q.1 q.2)) []) := p
    have a : phi_law_asked [.int 0, .str (tS l)] = some (.ret (.sh (P2 q.1 q.2)) []) := a
    have eq := @eq_P2 q.1 q.2
    cases ew : walkT l with
    | none =>
      rw [ew] at w
      have w : phi_law_walk_due [.str (tS l)] = some (.ret (.sh .non) []) := w
      unfold phi_law_right b_law_right
      simp_arith only [p, w, isN_t, a, eq]
    | some W =>
      rw [ew] at w
      have w : phi_law_walk_due [.str (tS l)] = some (.ret (.fr (W.map PP)) []) := w
      generalize W.map PP = X at *
      unfold phi_law_right b_law_right
      simp_arith only [p, w, isN_t, a, eq]
theorem right1_x {l : List Nat} (hs : sOk l) (hl : l.length ≤ 900000) : phi_law_right [.int 1, .str (tS l)] = some (.ret (.sh (.bl true)) []) := by
  have p := pdue_x hs hl
  have w := wdue_x hs hl
  have a := asked1_x hs hl
  have er := eq_ref
  generalize oPd (plT l) = pd at p
  have ix : ∀ x : D, gIx (.lst [pd, x]) (.int 1) = some (.sh x) := fun _ => rfl
  cases ew : walkT l with
  | none =>
    rw [ew] at w a
    have w : phi_law_walk_due [.str (tS l)] = some (.ret (.sh .non) []) := w
    have a : phi_law_asked [.int 1, .str (tS l)] = some (.ret (.sh REF) []) := a
    unfold phi_law_right b_law_right
    simp_arith only [p, w, ix, isN_n, a, er]
  | some W =>
    rw [ew] at w a
    have w : phi_law_walk_due [.str (tS l)] = some (.ret (.fr (W.map PP)) []) := w
    have a : phi_law_asked [.int 1, .str (tS l)] = some (.ret (.fr (W.map PP)) []) := a
    have eq : gEq (.lst (W.map PP)) (.lst (W.map PP)) = some (.sh (.bl true)) := eq_self' okPPm
    generalize W.map PP = X at *
    unfold phi_law_right b_law_right
    simp_arith only [p, w, ix, isN_l, a, eq]
/-! a text with one sign otherwise -/
def sgL : List Nat := [32, 33, 34, 35, 36, 38, 39, 40, 41, 42, 43, 44, 45, 46, 47, 48, 49, 50, 51, 52, 53, 54, 55, 56, 57, 58, 59, 60, 61, 62, 63, 64, 65, 66, 67, 68, 69, 70, 71, 72, 73, 74, 75, 76, 77, 78, 79, 80, 81, 82, 83, 84, 85, 86, 87, 88, 89, 90, 91, 92, 93, 94, 95, 96, 97, 98, 99, 100, 101, 102, 103, 104, 105, 106, 107, 108, 109, 110, 111, 112, 113, 114, 115, 116, 117, 118, 119, 120, 121, 122, 123, 124, 125, 126]
theorem lit_sg : (" !\"#$&'()*+,-./0123456789:;<=>?@ABCDEFGHIJKLMNOPQRSTUVWXYZ[\\]^_`abcdefghijklmnopqrstuvwxyz{|}~" : Str) = tS sgL := ext_tl (by rw [tl_ofString]; rfl)
def sg2 : List Nat := [32, 45, 47, 48, 49, 50, 51, 52, 53, 54, 55, 56, 57]
theorem lit_sg2 : (" -/0123456789" : Str) = tS sg2 := ext_tl (by rw [tl_ofString]; rfl)
theorem ix_any {L : List Nat} {i : Int} (h0 : 0 ≤ i) (h1 : i < (L.length : Nat)) (hl : L.length ≤ 1000000) : ∃ c ∈ L, gIx (.str (tS L)) (.int i) = some (.sh (.str (tS [c]))) := by
  have hn : i.toNat < L.length := by omega
  refine ⟨L[i.toNat], List.getElem_mem hn, ?_⟩
  show (if (tS L).length ≤ 1000000 then (atI L i).map (fun c => SV.sh (.str ⟨#[c]⟩)) else none) = _
  rw [if_pos (by rw [tS_len]; exact hl), atI_at (List.getElem?_eq_getElem hn) h0]
  rfl
theorem sIx_some {n d : Nat} {k : Nat} (h : k ≤ n + 1) : HT.sIx n d (some (k : Int)) = min k n := by
  exact HT.sIx_nat n d k
theorem cut_to {l : List Nat} {k : Nat} (h : k ≤ l.length + 1) : cutS (tS l) none (some (k : Int)) = tS (l.take k) := by
  have e := sIx_some (n := l.length) (d := l.length) h
  refine ext_tl ?_
  show (l.drop 0).take (HT.sIx (tS l).length (tS l).length (some (k : Int)) - 0) = l.take k
  rw [tS_len, e, List.drop_zero, Nat.sub_zero]
  by_cases hk : k ≤ l.length
  · rw [Nat.min_eq_left hk]
  · rw [Nat.min_eq_right (by omega), List.take_length, List.take_of_length_le (by omega)]
theorem cut_from {l : List Nat} {k : Nat} (h : k ≤ l.length + 1) : cutS (tS l) (some (k : Int)) none = tS (l.drop k) := by
  have e := sIx_some (n := l.length) (d := 0) h
  refine ext_tl ?_
  show (l.drop (HT.sIx (tS l).length 0 (some (k : Int)))).take ((tS l).length - HT.sIx (tS l).length 0 (some (k : Int))) = l.drop k
  rw [tS_len, e]
  by_cases hk : k ≤ l.length
  · rw [Nat.min_eq_left hk, List.take_of_length_le (by rw [List.length_drop]; exact Nat.le_refl _)]
  · rw [Nat.min_eq_right (by omega), List.drop_length, List.drop_of_length_le (by omega), List.take_nil]
theorem sl_to {l : List Nat} {k : Nat} (h : k ≤ l.length + 1) (hl : l.length ≤ 1000000) : gSl (.str (tS l)) none (some (k : Int)) = some (.sh (.str (tS (l.take k)))) := by
  show (if (tS l).length ≤ 1000000 then some (SV.sh (.str (cutS (tS l) none (some (k : Int))))) else none) = _
  rw [if_pos (by rw [tS_len]; exact hl), cut_to h]
theorem sl_from {l : List Nat} {k : Nat} (h : k ≤ l.length + 1) (hl : l.length ≤ 1000000) : gSl (.str (tS l)) (some (k : Int)) none = some (.sh (.str (tS (l.drop k)))) := by
  show (if (tS l).length ≤ 1000000 then some (SV.sh (.str (cutS (tS l) (some (k : Int)) none))) else none) = _
  rw [if_pos (by rw [tS_len]; exact hl), cut_from h]
/-! the law changes a text -/
theorem changed_x {l : List Nat} {n : Int} (hs : sOk l) (hl : l.length ≤ 800000) (hn : 0 ≤ n) : ∃ m : List Nat, phi_law_changed [.str (tS l), .int n] = some (.ret (.sh (.str (tS m))) []) ∧ sOk m ∧ m.length ≤ l.length + 1 := by
  have p94 : (0 : Int) < 94 := by decide
  have p4 : (0 : Int) < 4 := by decide
  have p13 : (0 : Int) < 13 := by decide
  have p3 : (0 : Int) < 3 := by decide
  have sl : gLen [.str (tS sgL)] = some (.sh (.int 94)) := len_str (l := sgL) (by decide)
  obtain ⟨c0, hc0, ec0⟩ := ix_any (L := sgL) (i := n % 94) (Int.emod_nonneg _ (by decide)) (Int.emod_lt_of_pos _ (by decide)) (by decide)
  have d94 : gDiv (.int n) (.int 94) = some (.sh (.int (n / 94))) := gDiv_pos (by decide) (log_9000 (k := 200) (by decide) (by decide) (by decide))
  have y0 : 0 ≤ n / 94 := Int.ediv_nonneg hn (by decide)
  generalize hy : n / 94 = y at *
  have d4 : gDiv (.int y) (.int 4) = some (.sh (.int (y / 4))) := gDiv_pos (by decide) (log_9000 (k := 200) (by decide) (by decide) (by decide))
  have d52 : gDiv (.int y) (.int 52) = some (.sh (.int (y / 52))) := gDiv_pos (by decide) (log_9000 (k := 200) (by decide) (by decide) (by decide))
  have d7 : gDiv (.int y) (.int 7) = some (.sh (.int (y / 7))) := gDiv_pos (by decide) (log_9000 (k := 200) (by decide) (by decide) (by decide))
  obtain ⟨c2, hc2, ec2⟩ := ix_any (L := sg2) (i := y / 4 % 13) (Int.emod_nonneg _ (by decide)) (Int.emod_lt_of_pos _ (by decide)) (by decide)
  have ll := len_str (l := l) (by omega)
  have pl : (0 : Int) < (l.length : Int) + 1 := by omega
  obtain ⟨k, hk, ek⟩ : ∃ k : Nat, k ≤ l.length ∧ y / 52 % ((l.length : Int) + 1) = (k : Int) := by
    have h0 := Int.emod_nonneg (y / 52) (show (l.length : Int) + 1 ≠ 0 by omega)
    have h1 := Int.emod_lt_of_pos (y / 52) pl
    exact ⟨(y / 52 % ((l.length : Int) + 1)).toNat, by omega, by omega⟩
  have mk : gMod (.int (y / 52)) (.int ((l.length : Int) + 1)) = some (.sh (.int (k : Int))) := by rw [gMod_pos pl, ek]
  have t1 := sl_to (l := l) (k := k) (by omega) (by omega)
  have t2 := sl_from (l := l) (k := k + 1) (by omega) (by omega)
  have t3 := sl_from (l := l) (k := k) (by omega) (by omega)
  have k1 : ((k : Int) + 1) = ((k + 1 : Nat) : Int) := by omega
  have tk : (l.take k).length ≤ l.length := by rw [List.length_take]; omega
  have dk : (l.drop (k + 1)).length ≤ l.length - (k + 1) := by rw [List.length_drop]; exact Nat.le_refl _
  have dk3 : (l.drop k).length ≤ l.length - k := by rw [List.length_drop]; exact Nat.le_refl _
  have tk' : (l.take k).length = k := by rw [List.length_take]; omega
  have so0 : sOk [c0] := fun x hx => by
    rw [List.mem_singleton.mp hx]
    exact (sOk_lit (l := sgL) (by decide +kernel)) c0 hc0
  have so2 : sOk [c2] := fun x hx => by
    rw [List.mem_singleton.mp hx]
    exact (sOk_lit (l := sg2) (by decide +kernel)) c2 hc2
  have key : ∀ (c : Nat), sOk [c] → (l.take k ++ [c]).length = k + 1 := fun c _ => by rw [List.length_append, tk']; rfl
  by_cases z : (0 : Int) < y % 4
  · have dz : decide ((0 : Int) < y % 4) = true := decide_eq_true z
    have hc : sOk [c2] := so2
    have a1 := add_str (l := l.take k) (m := [c2]) (by show (l.take k).length + 1 ≤ 1000000; omega)
    have a2 := add_str (l := l.take k ++ [c2]) (m := l.drop (k + 1)) (by rw [List.length_append]; show (l.take k).length + 1 + (l.drop (k + 1)).length ≤ 1000000; omega)
    have a3 := add_str (l := l.take k) (m := l.drop (k + 1)) (by omega)
    have a4 := add_str (l := l.take k ++ [c2]) (m := l.drop k) (by rw [List.length_append]; show (l.take k).length + 1 + (l.drop k).length ≤ 1000000; omega)
    by_cases q0 : y / 7 % 3 = 0
    · refine ⟨l.take k ++ [c2] ++ l.drop (k + 1), ?_, sOk_app (sOk_app (sOk_take hs) hc) (sOk_drop hs), by rw [List.length_append, List.length_append]; show (l.take k).length + 1 + _ ≤ _; omega⟩
      generalize tS (l.take k ++ [c2] ++ l.drop (k + 1)) = M at *
      generalize tS (l.take k ++ [c2]) = N at *
      generalize tS (l.take k) = T at *
      generalize tS (l.drop (k + 1)) = U at *
      unfold phi_law_changed b_law_changed
      simp_arith only [lit_sg, sl, p94, ec0, lit_sg2, d4, p13, ec2, hy, d94, p4, dz, d52, ll, mk, d7, p3, q0, t1, t2, k1, a1, a2]
    · have e0 : decide (y / 7 % 3 = 0) = false := decide_eq_false q0
      by_cases q1 : y / 7 % 3 = 1
      · refine ⟨l.take k ++ l.drop (k + 1), ?_, sOk_app (sOk_take hs) (sOk_drop hs), by rw [List.length_append]; omega⟩
        generalize tS (l.take k ++ l.drop (k + 1)) = M at *
        generalize tS (l.take k) = T at *
        generalize tS (l.drop (k + 1)) = U at *
        unfold phi_law_changed b_law_changed
        simp_arith only [lit_sg, sl, p94, ec0, lit_sg2, d4, p13, ec2, hy, d94, p4, dz, d52, ll, mk, d7, p3, q1, t1, t2, k1, a3]
      · have e1 : decide (y / 7 % 3 = 1) = false := decide_eq_false q1
        refine ⟨l.take k ++ [c2] ++ l.drop k, ?_, sOk_app (sOk_app (sOk_take hs) hc) (sOk_drop hs), by rw [List.length_append, List.length_append]; show (l.take k).length + 1 + _ ≤ _; omega⟩
        generalize tS (l.take k ++ [c2] ++ l.drop k) = M at *
        generalize tS (l.take k ++ [c2]) = N at *
        generalize tS (l.take k) = T at *
        generalize tS (l.drop k) = U at *
        unfold phi_law_changed b_law_changed
        simp_arith only [lit_sg, sl, p94, ec0, lit_sg2, d4, p13, ec2, hy, d94, p4, dz, d52, ll, mk, d7, p3, t1, t3, k1, a1, a4, e0, e1]
  · have dz : decide ((0 : Int) < y % 4) = false := decide_eq_false z
    have hc : sOk [c0] := so0
    have a1 := add_str (l := l.take k) (m := [c0]) (by show (l.take k).length + 1 ≤ 1000000; omega)
    have a2 := add_str (l := l.take k ++ [c0]) (m := l.drop (k + 1)) (by rw [List.length_append]; show (l.take k).length + 1 + (l.drop (k + 1)).length ≤ 1000000; omega)
    have a3 := add_str (l := l.take k) (m := l.drop (k + 1)) (by omega)
    have a4 := add_str (l := l.take k ++ [c0]) (m := l.drop k) (by rw [List.length_append]; show (l.take k).length + 1 + (l.drop k).length ≤ 1000000; omega)
    by_cases q0 : y / 7 % 3 = 0
    · refine ⟨l.take k ++ [c0] ++ l.drop (k + 1), ?_, sOk_app (sOk_app (sOk_take hs) hc) (sOk_drop hs), by rw [List.length_append, List.length_append]; show (l.take k).length + 1 + _ ≤ _; omega⟩
      generalize tS (l.take k ++ [c0] ++ l.drop (k + 1)) = M at *
      generalize tS (l.take k ++ [c0]) = N at *
      generalize tS (l.take k) = T at *
      generalize tS (l.drop (k + 1)) = U at *
      unfold phi_law_changed b_law_changed
      simp_arith only [lit_sg, sl, p94, ec0, hy, d94, p4, dz, d52, ll, mk, d7, p3, q0, t1, t2, k1, a1, a2]
    · have e0 : decide (y / 7 % 3 = 0) = false := decide_eq_false q0
      by_cases q1 : y / 7 % 3 = 1
      · refine ⟨l.take k ++ l.drop (k + 1), ?_, sOk_app (sOk_take hs) (sOk_drop hs), by rw [List.length_append]; omega⟩
        generalize tS (l.take k ++ l.drop (k + 1)) = M at *
        generalize tS (l.take k) = T at *
        generalize tS (l.drop (k + 1)) = U at *
        unfold phi_law_changed b_law_changed
        simp_arith only [lit_sg, sl, p94, ec0, hy, d94, p4, dz, d52, ll, mk, d7, p3, q1, t1, t2, k1, a3]
      · have e1 : decide (y / 7 % 3 = 1) = false := decide_eq_false q1
        refine ⟨l.take k ++ [c0] ++ l.drop k, ?_, sOk_app (sOk_app (sOk_take hs) hc) (sOk_drop hs), by rw [List.length_append, List.length_append]; show (l.take k).length + 1 + _ ≤ _; omega⟩
        generalize tS (l.take k ++ [c0] ++ l.drop k) = M at *
        generalize tS (l.take k ++ [c0]) = N at *
        generalize tS (l.take k) = T at *
        generalize tS (l.drop k) = U at *
        unfold phi_law_changed b_law_changed
        simp_arith only [lit_sg, sl, p94, ec0, hy, d94, p4, dz, d52, ll, mk, d7, p3, t1, t3, k1, a1, a4, e0, e1]
/-! k85: the law -/
open TL
open PySem.NumText (AllDigits digitsVal)
theorem right_x {w : Int} {l : List Nat} (hw : w = 0 ∨ w = 1) (hs : sOk l) (hl : l.length ≤ 900000) : phi_law_right [.int w, .str (tS l)] = some (.ret (.sh (.bl true)) []) := by
  rcases hw with rfl | rfl
  · exact right0_x hs hl
  · exact right1_x hs hl
theorem idx3 {x : Int} (h0 : 0 ≤ x) (h1 : x < 3) : ∃ B : Int, 1 ≤ B ∧ B ≤ 3721 ∧ gIx (.lst [.int 1, .int 61, .int 3721]) (.int x) = some (.sh (.int B)) := by
  rcases (show x = 0 ∨ x = 1 ∨ x = 2 by omega) with rfl | rfl | rfl
  · exact ⟨_, by decide, by decide, rfl⟩
  · exact ⟨_, by decide, by decide, rfl⟩
  · exact ⟨_, by decide, by decide, rfl⟩
theorem maps_of : ∀ {l : List D}, (∀ d ∈ l, ∃ q : Int × Int, PlB q.1 q.2 ∧ d = PP q) → ∃ W : List (Int × Int), l = W.map PP ∧ ∀ q ∈ W, PlB q.1 q.2
  | [], _ => ⟨[], rfl, fun _ h => nomatch h⟩
  | d :: l, h => by
    obtain ⟨q, hq, rfl⟩ := h d List.mem_cons_self
    obtain ⟨W, rfl, hW⟩ := maps_of fun e he => h e (List.mem_cons_of_mem _ he)
    refine ⟨q :: W, rfl, fun p hp => ?_⟩
    rcases List.mem_cons.mp hp with rfl | hp
    · exact hq
    · exact hW p hp
theorem places_x {x : Int} {s0 s1 s3 s4 s5 s6 s7 s9 s10 : Option SV} (h0 : 0 ≤ x) : ∃ W : List (Int × Int), GoodW W ∧ vLc [8] (iR1 (aCons (oOf (vOp2 gAdd (oOf (vC (.int 1))) (oOf (vOp2 gMod (oPk 2) (oOf (vC (.int 12))))))) aNil)) (gN 8) lc_law_1 le_law_1 [s0, s1, some (.sh (.int x)), s3, s4, s5, s6, s7, none, s9, s10] = some (.ok (.fr (W.map PP)) [s0, s1, some (.sh (.int x)), s3, s4, s5, s6, s7, none, s9, s10]) := by
  obtain ⟨m, hm, hm2⟩ : ∃ m : Nat, (1 ≤ m ∧ m ≤ 12) ∧ 1 + x % 12 = (m : Int) := ⟨(1 + x % 12).toNat, by omega, by omega⟩
  have p12 : (0 : Int) < 12 := by decide
  have rg : RngOk (m : Int) := rng_small (by omega) (by omega)
  obtain ⟨l, lc, e1, e2⟩ := vLc_rel (vs := [8]) (it := iR1 (aCons (oOf (vOp2 gAdd (oOf (vC (.int 1))) (oOf (vOp2 gMod (oPk 2) (oOf (vC (.int 12))))))) aNil)) (ds := rngD 0 m) (g := gN 8) (c := lc_law_1) (elt := le_law_1) (Rl := fun i d => ∃ q : Int × Int, PlB q.1 q.2 ∧ d = PP q) (ρ := [s0, s1, some (.sh (.int x)), s3, s4, s5, s6, s7, none, s9, s10]) (ρ0 := [s0, s1, some (.sh (.int x)), s3, s4, s5, s6, s7, none, s9, s10]) (by
      simp_arith only [p12, hm2, rg, Int.toNat_natCast]) (noFr_1 rfl (fun c h => nomatch h)) rfl (fun i d hd => by
      obtain ⟨k, hk, rfl⟩ := mem_rng (List.mem_of_getElem? hd)
      rw [Int.zero_add]
      obtain ⟨B, hB1, hB2, eB⟩ := idx3 (x := (k : Int) % 3) (by omega) (by omega)
      have p3 : (0 : Int) < 3 := by decide
      have dB : gDiv (.int x) (.int B) = some (.sh (.int (x / B))) := gDiv_pos (by omega) (log_9000 (k := 200) (by omega) (by omega) (by decide))
      have y0 : 0 ≤ x / B := Int.ediv_nonneg h0 (by omega)
      have m2 : Sim.MulOk (k : Int) 104729 := mulOk_r (by decide) (by decide)
      have k0 : 0 ≤ (k : Int) * 104729 := Int.mul_nonneg (by omega) (by decide)
      obtain ⟨p, q, e, g⟩ := drawn_ok (x := x / B + (k : Int) * 104729) (by omega)
      refine ⟨[s0, s1, some (.sh (.int x)), s3, s4, s5, s6, s7, some (.sh (.int (k : Int))), s9, s10], .sh (P2 p q), rfl, rfl, rfl, ?_, ⟨(p, q), g, rfl⟩⟩
      unfold le_law_1
      simp_arith only [p3, eB, dB, m2, e]) (by rw [rng_len]; omega)
  rw [rng_len] at e1
  obtain ⟨W, rfl, hW⟩ := maps_of (l := l) fun d hd => by
    obtain ⟨i, hi, e⟩ := List.mem_iff_getElem.mp hd
    obtain ⟨d', h1, h2⟩ := e2 i (by rw [rng_len]; omega)
    rw [List.getElem?_eq_getElem hi] at h1
    have : d' = d := by rw [← e]; exact (Option.some.inj h1).symm
    rw [← this]
    exact h2
  rw [List.length_map] at e1
  exact ⟨W, ⟨by omega, hW⟩, lc⟩
theorem text_x {W : List (Int × Int)} {s0 s1 s2 s4 s5 s6 s7 s8 : Option SV} (g : GoodW W) : vLc [9, 10] (iLs (oOf (vVar 3))) (gT 2 (gsC (gN 9) (gsC (gN 10) gsN))) lc_law_2 le_law_2 [s0, s1, s2, some (.fr (W.map PP)), s4, s5, s6, s7, s8, none, none] = some (.ok (.fr ((wkS W).map D.str)) [s0, s1, s2, some (.sh (.lst (W.map PP))), s4, s5, s6, s7, s8, none, none]) := by
  have lc := vLc_sh (vs := [9, 10]) (it := iLs (oOf (vVar 3))) (ds := W.map PP) (g := gT 2 (gsC (gN 9) (gsC (gN 10) gsN))) (c := lc_law_2) (elt := le_law_2) (p := fun _ => true) (f := sTx) (ρ := [s0, s1, s2, some (.sh (.lst (W.map PP))), s4, s5, s6, s7, s8, none, none]) (ρ0 := [s0, s1, s2, some (.fr (W.map PP)), s4, s5, s6, s7, s8, none, none]) (by
      generalize W.map PP = X
      simp_arith only []) (noFr2 rfl rfl) (fun d hd => by
      obtain ⟨q, hq, rfl⟩ := List.mem_map.mp hd
      refine ⟨[s0, s1, s2, some (.sh (.lst (W.map PP))), s4, s5, s6, s7, s8, some (.sh (.int q.1)), some (.sh (.int q.2))], rfl, rfl, rfl, rfl, fun _ => ?_⟩
      obtain ⟨t1, t2, t3, t4⟩ := str_pl (g.2 q hq) (sl := [])
      generalize W.map PP = X
      show _ = some (Out.ok (SV.sh (.str (tS (plL q.1 q.2)))) _)
      unfold le_law_2
      simp_arith only [t1, t2, t3, t4]) (by rw [List.length_map]; have := g.1; omega)
  rw [filter_true', map_sTx] at lc
  exact lc
theorem turn_x {x w : Int} {l : List Nat} {s0 s1 s3 s6 s7 s8 s9 s10 : Option SV} (h0 : 0 ≤ x) (hw : w = 0 ∨ w = 1) (hs : sOk l) (hl : l.length ≤ 20000) :
    fb_law_1 [s0, s1, some (.sh (.int x)), s3, some (.sh (.str (tS l))), some (.sh (.int w)), s6, s7, s8, s9, s10] = some (.nx [s0, s1, some (.sh (.int x)), s3, some (.sh (.str (tS l))), some (.sh (.int w)), s6, s7, s8, s9, s10]) := by
  have d12 : gDiv (.int x) (.int 12) = some (.sh (.int (x / 12))) := gDiv_pos (by decide) (log_9000 (k := 200) (by decide) (by decide) (by decide))
  obtain ⟨m, em, sm, lm⟩ := changed_x hs (by omega) (n := x / 12) (Int.ediv_nonneg h0 (by decide))
  have r1 := right_x hw hs (by omega)
  have r2 := right_x hw sm (by omega)
  unfold fb_law_1
  simp_arith only [r1, d12, em, r2]
theorem text_one {ns : List Int} {k : Nat} {s2 s3 s4 s5 : Option SV} (hk : k < 1000) : ∃ u2 u3 u4 u5, fb_law_2 [some (.sh (.scr ns)), some (.sh (.int (k : Int))), s2, s3, s4, s5, none, none, none, none, none] = some (.nx [some (.sh (.scr ns)), some (.sh (.int (k : Int))), u2, u3, u4, u5, none, none, none, none, none]) := by
  obtain ⟨x, h0, e⟩ := @number_nn ns k hk
  obtain ⟨W, g, ep⟩ := places_x (x := x) (s0 := some (.sh (.scr ns))) (s1 := some (.sh (.int (k : Int)))) (s3 := s3) (s4 := s4) (s5 := s5) (s6 := none) (s7 := none) (s9 := none) (s10 := none) h0
  have et := text_x (s0 := some (.sh (.scr ns))) (s1 := some (.sh (.int (k : Int)))) (s2 := some (.sh (.int x))) (s4 := s4) (s5 := s5) (s6 := none) (s7 := none) (s8 := none) g
  have ej := e_joinW g
  have hs := @wkL_ok W
  have hl := wkL_len g
  have e0 := turn_x (x := x) (w := 0) (s0 := some (.sh (.scr ns))) (s1 := some (.sh (.int (k : Int)))) (s3 := some (.sh (.lst (W.map PP)))) (s6 := none) (s7 := none) (s8 := none) (s9 := none) (s10 := none) h0 (.inl rfl) hs hl
  have e1 := turn_x (x := x) (w := 1) (s0 := some (.sh (.scr ns))) (s1 := some (.sh (.int (k : Int)))) (s3 := some (.sh (.lst (W.map PP)))) (s6 := none) (s7 := none) (s8 := none) (s9 := none) (s10 := none) h0 (.inr rfl) hs hl
  have lo : forL (gN 5) fb_law_1 [.int 0, .int 1] [some (.sh (.scr ns)), some (.sh (.int (k : Int))), some (.sh (.int x)), some (.sh (.lst (W.map PP))), some (.sh (.str (tS (wkL W)))), s5, none, none, none, none, none] = some (.nx [some (.sh (.scr ns)), some (.sh (.int (k : Int))), some (.sh (.int x)), some (.sh (.lst (W.map PP))), some (.sh (.str (tS (wkL W)))), some (.sh (.int 1)), none, none, none, none, none]) :=
    (forL_cons (by rfl) e0).trans ((forL_cons (by rfl) e1).trans rfl)
  refine ⟨some (.sh (.int x)), some (.sh (.lst (W.map PP))), some (.sh (.str (tS (wkL W)))), some (.sh (.int 1)), ?_⟩
  generalize W.map PP = X at *
  generalize (wkS W).map D.str = Y at *
  generalize tS (wkL W) = T at *
  unfold fb_law_2
  simp_arith only [e, ep, et, ej, lo]
/-! what is no text -/
def cL (s : String) : List Nat := s.toList.map Char.toNat
theorem str_cL (s : String) : Str.ofString s = tS (cL s) := ext_tl (by rw [tl_ofString]; rfl)
def noB (l : List Nat) : Bool := (plT l).isNone && ((walkT l).isNone && (l.all (fun c => decide (c < 0x110000)) && decide (l.length ≤ 900000)))
def NoD (d : D) : Prop := phi_law_asked [.int 0, d] = some (.ret (.sh REF) []) ∧ phi_law_asked [.int 1, d] = some (.ret (.sh REF) [])
theorem no_tS {l : List Nat} (h : noB l = true) : NoD (.str (tS l)) := by
  unfold noB at h
  rw [Bool.and_eq_true, Bool.and_eq_true, Bool.and_eq_true] at h
  obtain ⟨h1, h2, h3, h4⟩ := h
  have hl := of_decide_eq_true h4
  have hs := sOk_lit h3
  have a0 := asked0_x hs hl
  have a1 := asked1_x hs hl
  rw [Option.isNone_iff_eq_none.mp h1] at a0
  rw [Option.isNone_iff_eq_none.mp h2] at a1
  exact ⟨a0, a1⟩
theorem no_str {s : String} (h : noB (cL s) = true) : NoD (.str (Str.ofString s)) := by
  rw [str_cL]
  exact no_tS h
theorem none_turn {d : D} {w : Int} {s0 s1 s2 s3 s4 s6 s8 s9 s10 : Option SV} (hw : w = 0 ∨ w = 1) (h : NoD d) : fb_law_3 [s0, s1, s2, s3, s4, some (.sh (.int w)), s6, some (.sh d), s8, s9, s10] = some (.nx [s0, s1, s2, s3, s4, some (.sh (.int w)), s6, some (.sh d), s8, s9, s10]) := by
  have ne := ne_ref
  rcases hw with rfl | rfl
  · have a := h.1
    unfold fb_law_3
    simp_arith only [a, ne]
  · have a := h.2
    unfold fb_law_3
    simp_arith only [a, ne]
theorem none_one {d : D} {s0 s1 s2 s3 s4 s5 s6 s8 s9 s10 : Option SV} (h : NoD d) : fb_law_4 [s0, s1, s2, s3, s4, s5, s6, some (.sh d), s8, s9, s10] = some (.nx [s0, s1, s2, s3, s4, some (.sh (.int 1)), s6, some (.sh d), s8, s9, s10]) := by
  have e0 := none_turn (w := 0) (s0 := s0) (s1 := s1) (s2 := s2) (s3 := s3) (s4 := s4) (s6 := s6) (s8 := s8) (s9 := s9) (s10 := s10) (.inl rfl) h
  have e1 := none_turn (w := 1) (s0 := s0) (s1 := s1) (s2 := s2) (s3 := s3) (s4 := s4) (s6 := s6) (s8 := s8) (s9 := s9) (s10 := s10) (.inr rfl) h
  have lo : forL (gN 5) fb_law_3 [.int 0, .int 1] [s0, s1, s2, s3, s4, s5, s6, some (.sh d), s8, s9, s10] = some (.nx [s0, s1, s2, s3, s4, some (.sh (.int 1)), s6, some (.sh d), s8, s9, s10]) := (forL_cons (by rfl) e0).trans ((forL_cons (by rfl) e1).trans rfl)
  unfold fb_law_4
  simp_arith only [lo]
theorem none_all {s0 s1 s2 s3 s4 s6 s8 s9 s10 : Option SV} : ∀ (ds : List D) (s5 s7 : Option SV), (∀ d ∈ ds, NoD d) → ∃ u5 u7, forL (gN 7) fb_law_4 ds [s0, s1, s2, s3, s4, s5, s6, s7, s8, s9, s10] = some (.nx [s0, s1, s2, s3, s4, u5, s6, u7, s8, s9, s10])
  | [], s5, s7, _ => ⟨s5, s7, rfl⟩
  | d :: ds, s5, s7, h => by
    have e := none_one (s0 := s0) (s1 := s1) (s2 := s2) (s3 := s3) (s4 := s4) (s5 := s5) (s6 := s6) (s8 := s8) (s9 := s9) (s10 := s10) (h d List.mem_cons_self)
    obtain ⟨u5, u7, e'⟩ := none_all (s0 := s0) (s1 := s1) (s2 := s2) (s3 := s3) (s4 := s4) (s6 := s6) (s8 := s8) (s9 := s9) (s10 := s10) ds (some (.sh (.int 1))) (some (.sh d)) fun x hx => h x (List.mem_cons_of_mem _ hx)
    exact ⟨u5, u7, (forL_cons (by rfl) e).trans e'⟩
def L1 : List D := [.str "", .str " ", .str "/", .str "1", .str "1/", .str "/1", .str "1/1/1", .str "2/4"]
def L2' : List D := [.str "-1/0", .str "0/0", .str "0/2", .str "1/-2", .str "+1/2", .str "01/2", .str "1/02", .str "-0/1"]
def L3 : List D := [.str "1 /2", .str "1/2 ", .str " 1/2", .str "1.0/2", .str "1_0/3"]
def ones : List Nat := List.replicate 31 49
def L4 : List D := [.str "--1/2", .str (tS (ones ++ [47, 49])), .str (tS ([49, 47] ++ ones)), .str "x", .str "1/0/"]
def L5 : List D := [.non, .int 5, .bl true, .tup [.int 1, .int 2], .lst [.str "1/2"], .str "1/2  1/3", .str "1/2,1/3", .str "1/2\n1/3"]
def LN : List D := L1 ++ L2' ++ L3 ++ L4 ++ L5
theorem LN_no : ∀ d ∈ LN, NoD d := by
  intro d hd
  unfold LN L1 L2' L3 L4 L5 at hd
  simp only [List.cons_append, List.nil_append, List.mem_cons, List.not_mem_nil, or_false] at hd
  rcases hd with rfl | rfl | rfl | rfl | rfl | rfl | rfl | rfl | rfl | rfl | rfl | rfl | rfl | rfl | rfl | rfl | rfl | rfl | rfl | rfl | rfl | rfl | rfl | rfl | rfl | rfl | rfl | rfl | rfl | rfl | rfl | rfl | rfl | rfl
  all_goals first
    | exact no_str (by decide +kernel)
    | exact no_tS (by decide +kernel)
    | exact isStr_no rfl
theorem r31 : gRepS (.str "1") (.int 31) = some (.sh (.str (tS ones))) := by
  have e : repS (Str.ofString "1") 31 = tS ones := ext_tl (by
    show ((List.replicate 31 (Str.ofString "1").cps).foldl (· ++ ·) #[]).toList = ones
    decide +kernel)
  show (if (Str.ofString "1").length = 1 ∧ (2 : Int) ≤ 31 ∧ (31 : Int) ≤ 1000 then some (SV.sh (.str (repS (Str.ofString "1") 31))) else none) = _
  rw [if_pos ⟨by decide +kernel, by decide, by decide⟩, e]
theorem a31 : gAdd (.str (tS ones)) (.str "/1") = some (.sh (.str (tS (ones ++ [47, 49])))) := by
  rw [str_cL "/1"]
  exact add_str (l := ones) (m := [47, 49]) (by decide)
theorem b31 : gAdd (.str "1/") (.str (tS ones)) = some (.sh (.str (tS ([49, 47] ++ ones)))) := by
  rw [str_cL "1/"]
  exact add_str (l := [49, 47]) (m := ones) (by decide)
def T13 : List Nat := joinL [32] (List.replicate 13 [49, 47, 48])
theorem r13 : gRep (.lst [.str "1/0"]) (.int 13) = some (.fr (List.replicate 13 (.str "1/0"))) := e_rep1 (d := .str "1/0") (k := 13) ⟨by decide, by decide, by decide⟩
theorem joinB (ys : List Str) (hc : (ys.map (·.length)).sum + ys.length * (tS [32]).length ≤ 16777216) : gJoin (.str " ") [.lst (ys.map D.str)] = some (.sh (.str (Txt.join (tS [32]) ys))) := by
  show (strL (ys.map D.str)).bind _ = _
  rw [strL_strs, Option.bind_some, lit_bl, if_pos hc]
theorem j13 : gJoin (.str " ") [.lst (List.replicate 13 (.str "1/0"))] = some (.sh (.str (tS T13))) := by
  have e : (List.replicate 13 (D.str "1/0")) = (List.replicate 13 (tS [49, 47, 48])).map D.str := by
    rw [List.map_replicate, show tS [49, 47, 48] = Str.ofString "1/0" from (str_cL "1/0").symm]
  rw [e, joinB _ (by decide +kernel)]
  congr 3
theorem w13 : walkT T13 = none := by decide +kernel
theorem plain_law (ns : List Int) (h : ns.length ≤ 63) : phi_law [.scr ns] = some (.ret (.sh (.bl true)) []) := by
  obtain ⟨m, hm, em⟩ : ∃ m : Nat, m ≤ 8 ∧ (if (if ((ns.length : Nat) : Int) < 8 then ((ns.length : Nat) : Int) else 8) > 2 then (if ((ns.length : Nat) : Int) < 8 then ((ns.length : Nat) : Int) else 8) else 2) = (m : Int) := by
    refine ⟨(if (if ((ns.length : Nat) : Int) < 8 then ((ns.length : Nat) : Int) else 8) > 2 then (if ((ns.length : Nat) : Int) < 8 then ((ns.length : Nat) : Int) else 8) else 2).toNat, ?_, ?_⟩
    · split <;> (try split) <;> omega
    · split <;> (try split) <;> omega
  obtain ⟨ρ', e, u1, u2, u3, u4, u5, rfl⟩ := forR (g := gN 1) (body := fb_law_2) (lo := 0) (m := m) (ρ := [some (.sh (.scr ns)), none, none, none, none, none, none, none, none, none, none])
    (fun i ρ => ∃ u1 u2 u3 u4 u5, ρ = [some (.sh (.scr ns)), u1, u2, u3, u4, u5, none, none, none, none, none])
    ⟨none, none, none, none, none, rfl⟩
    (by
      rintro i hi ρ ⟨u1, u2, u3, u4, u5, rfl⟩
      obtain ⟨v2, v3, v4, v5, e⟩ := @text_one ns i u2 u3 u4 u5 (by omega)
      rw [Int.zero_add]
      exact ⟨_, _, rfl, e, _, _, _, _, _, rfl⟩)
  have rg : RngOk (m : Int) := rng_small (by omega) (by omega)
  obtain ⟨v5, v7, en⟩ := none_all (s0 := some (.sh (.scr ns))) (s1 := u1) (s2 := u2) (s3 := u3) (s4 := u4) (s6 := some (.sh (.lst LN))) (s8 := none) (s9 := none) (s10 := none) LN u5 none LN_no
  have a1 := asked1_x (l := T13) (sOk_lit (by decide +kernel)) (by decide +kernel)
  rw [w13] at a1
  have a1 : phi_law_asked [.int 1, .str (tS T13)] = some (.ret (.sh REF) []) := a1
  have er := eq_ref
  have a0 := asked0_x (l := [49, 47, 48]) (sOk_lit rfl) (by decide)
  rw [show plT [49, 47, 48] = some (1, 0) by decide +kernel] at a0
  have a0 : phi_law_asked [.int 0, .str (Str.ofString "1/0")] = some (.ret (.sh (P2 1 0)) []) := by
    rw [str_cL "1/0"]
    exact a0
  have eq := @eq_P2 1 0
  unfold LN L1 L2' L3 L4 L5 at en
  simp only [List.cons_append, List.nil_append] at en
  have j := j13
  simp only [List.reduceReplicate] at j
  unfold phi_law b_law
  simp_arith only [em, rg, Int.toNat_natCast, e, r31, a31, b31, en, r13, j, a1, er, a0, eq]
end LawW

namespace LawW
open PySem PySem.Spec PyProof.Rows L2 Sim
/-! ### the text -/
def topS (i : Nat) : Stmt := PySem.Challenge.pw_fractionroads_k85_no_texts.main.body.getD i (.Pass ⟨0, 0, 0, 0⟩)
abbrev st_common : Stmt := topS 15
abbrev N_common : List Str := ["one", "other"]
theorem sc_common : FnScope N_common ["one", "other"] (defScope st_common) := ⟨rfl, rfl, rfl, by decide +kernel, rfl, by decide +kernel, by decide +kernel⟩
abbrev st_read_number : Stmt := topS 20
abbrev N_read_number : List Str := ["word", "most", "figures", "sign"]
theorem sc_read_number : FnScope N_read_number ["word", "most"] (defScope st_read_number) := ⟨rfl, rfl, rfl, by decide +kernel, rfl, by decide +kernel, by decide +kernel⟩
abbrev st_read_place : Stmt := topS 21
abbrev N_read_place : List Str := ["text", "top", "stroke", "bottom", "found"]
theorem sc_read_place : FnScope N_read_place ["text"] (defScope st_read_place) := ⟨rfl, rfl, rfl, by decide +kernel, rfl, by decide +kernel, by decide +kernel⟩
abbrev st_read_walk : Stmt := topS 22
abbrev N_read_walk : List Str := ["text", "words", "word"]
theorem sc_read_walk : FnScope N_read_walk ["text"] (defScope st_read_walk) := ⟨rfl, rfl, rfl, by decide +kernel, rfl, by decide +kernel, by decide +kernel⟩
abbrev st_law_cell_at : Stmt := topS 24
abbrev N_law_cell_at : List Str := ["_law_script", "_law_k"]
theorem sc_law_cell_at : FnScope N_law_cell_at ["_law_script", "_law_k"] (defScope st_law_cell_at) := ⟨rfl, rfl, rfl, by decide +kernel, rfl, by decide +kernel, by decide +kernel⟩
abbrev st_law_number : Stmt := topS 25
abbrev N_law_number : List Str := ["_law_script", "_law_k", "_law_cell", "_law_one"]
theorem sc_law_number : FnScope N_law_number ["_law_script", "_law_k"] (defScope st_law_number) := ⟨rfl, rfl, rfl, by decide +kernel, rfl, by decide +kernel, by decide +kernel⟩
abbrev st_law_common : Stmt := topS 26
abbrev N_law_common : List Str := ["_law_one", "_law_other"]
theorem sc_law_common : FnScope N_law_common ["_law_one", "_law_other"] (defScope st_law_common) := ⟨rfl, rfl, rfl, by decide +kernel, rfl, by decide +kernel, by decide +kernel⟩
abbrev st_law_kind : Stmt := topS 27
abbrev N_law_kind : List Str := ["_law_e", "_law_names", "_law_kinds"]
theorem sc_law_kind : FnScope N_law_kind ["_law_e"] (defScope st_law_kind) := ⟨rfl, rfl, rfl, by decide +kernel, rfl, by decide +kernel, by decide +kernel⟩
abbrev st_law_place : Stmt := topS 28
abbrev N_law_place : List Str := ["_law_top", "_law_bottom", "_law_common_part"]
theorem sc_law_place : FnScope N_law_place ["_law_top", "_law_bottom"] (defScope st_law_place) := ⟨rfl, rfl, rfl, by decide +kernel, rfl, by decide +kernel, by decide +kernel⟩
abbrev st_law_drawn_place : Stmt := topS 29
abbrev N_law_drawn_place : List Str := ["_law_number_here", "_law_base", "_law_top", "_law_bottom"]
theorem sc_law_drawn_place : FnScope N_law_drawn_place ["_law_number_here"] (defScope st_law_drawn_place) := ⟨rfl, rfl, rfl, by decide +kernel, rfl, by decide +kernel, by decide +kernel⟩
abbrev st_law_number_due : Stmt := topS 30
abbrev N_law_number_due : List Str := ["_law_word", "_law_figures", "_law_sign"]
theorem sc_law_number_due : FnScope N_law_number_due ["_law_word"] (defScope st_law_number_due) := ⟨rfl, rfl, rfl, by decide +kernel, rfl, by decide +kernel, by decide +kernel⟩
abbrev st_law_place_due : Stmt := topS 31
abbrev N_law_place_due : List Str := ["_law_text", "_law_parts", "_law_top", "_law_bottom", "_law_part"]
theorem sc_law_place_due : FnScope N_law_place_due ["_law_text"] (defScope st_law_place_due) := ⟨rfl, rfl, rfl, by decide +kernel, rfl, by decide +kernel, by decide +kernel⟩
abbrev st_law_walk_due : Stmt := topS 32
abbrev N_law_walk_due : List Str := ["_law_text", "_law_some", "_law_word"]
theorem sc_law_walk_due : FnScope N_law_walk_due ["_law_text"] (defScope st_law_walk_due) := ⟨rfl, rfl, rfl, by decide +kernel, rfl, by decide +kernel, by decide +kernel⟩
abbrev st_law_asked : Stmt := topS 33
abbrev N_law_asked : List Str := ["_law_which", "_law_thing", "_law_e"]
theorem sc_law_asked : FnScope N_law_asked ["_law_which", "_law_thing"] (defScope st_law_asked) := ⟨rfl, rfl, rfl, by decide +kernel, rfl, by decide +kernel, by decide +kernel⟩
abbrev st_law_changed : Stmt := topS 34
abbrev N_law_changed : List Str := ["_law_text", "_law_number_here", "_law_signs", "_law_sign", "_law_at", "_law_sort"]
theorem sc_law_changed : FnScope N_law_changed ["_law_text", "_law_number_here"] (defScope st_law_changed) := ⟨rfl, rfl, rfl, by decide +kernel, rfl, by decide +kernel, by decide +kernel⟩
abbrev st_law_right : Stmt := topS 35
abbrev N_law_right : List Str := ["_law_which", "_law_text", "_law_due"]
theorem sc_law_right : FnScope N_law_right ["_law_which", "_law_text"] (defScope st_law_right) := ⟨rfl, rfl, rfl, by decide +kernel, rfl, by decide +kernel, by decide +kernel⟩
abbrev st_law : Stmt := topS 36
abbrev N_law : List Str := ["_law_script", "_law_at", "_law_number_here", "_law_places", "_law_text", "_law_which", "_law_none", "_law_thing", "_law_k", "_law_top", "_law_bottom"]
theorem sc_law : FnScope N_law ["_law_script"] (defScope st_law) := ⟨rfl, rfl, rfl, by decide +kernel, rfl, by decide +kernel, by decide +kernel⟩
section
variable {P : Program} {w : World} {K : PySem.W.Frag} {mg : Str → Option Value} {base : Heap} {cv : Nat → Value} {dv : Nat → Addr}
set_option maxRecDepth 100000 in
theorem ok_common (D0 : DefAt K mg "common" st_common ["one", "other"]) (z_abs : mg "abs" = none) : Has P w K mg base cv 1 2 none phi_common "common" ["one", "other"] := by
  obtain ⟨f0, fd0, G0, m0, b0⟩ := D0
  refine ⟨f0, fd0, fn_ok (n := 2) (io := none) (m := b_common) (w := ([0, 1] ++ ([0, 1] ++ []))) G0 sc_common rfl ?hio (fun cdv A outer s H E hr => ?body) (fun _ _ h => h), m0, G0.kp, b0, fun_look G0⟩
  case body =>
    unfold b_common wb_common_1 wc_common_1
    exact ⟨_, (sns_cons (sns_par (i := 0) (j := 1) rfl sc_common.nd rfl rfl (by decide) rfl rfl (snd_acons (snd_o (snd_bi call_abs ok_abs rfl z_abs boot_abs (snd_acons (snd_pk (pv 0)) snd_anil))) (snd_acons (snd_o (snd_bi call_abs ok_abs rfl z_abs boot_abs (snd_acons (snd_pk (pv 1)) snd_anil))) snd_anil)))
    (sns_cons (sns_while (passes_of rfl) (snb_cmp op_gt ok_cmp (snd_pk (pv 1)) (snd_o snd_int) (nomark _))
    (sns_one (sns_par (i := 0) (j := 1) rfl sc_common.nd rfl rfl (by decide) rfl rfl (snd_acons (snd_o (snd_var (x := "") (pv 1))) (snd_acons (snd_o (snd_mod (snd_pk (pv 0)) (snd_pk (pv 1)))) snd_anil)))))
    (sns_one (sns_ret (snd_mv (pv 0))))))⟩
  case hio => exact fun i h => nomatch h
set_option maxRecDepth 100000 in
theorem ok_read_number (D0 : DefAt K mg "read_number" st_read_number ["word", "most"]) (c_FIGURES : GlobAt K mg "FIGURES" (D.str "0123456789")) (X_NoText : ExcAt K mg cv "NoText" 11) (z_int : mg "int" = none) (z_len : mg "len" = none) : Has P w K mg base cv 1 2 none phi_read_number "read_number" ["word", "most"] := by
  obtain ⟨f0, fd0, G0, m0, b0⟩ := D0
  obtain ⟨u_FIGURES, v_FIGURES, g_FIGURES, r_FIGURES, p_FIGURES⟩ := c_FIGURES
  obtain ⟨C_NoText, I_NoText, e_NoText⟩ := X_NoText
  refine ⟨f0, fd0, fn_ok (n := 2) (io := none) (m := b_read_number) (w := ([2] ++ (([2] ++ []) ++ (([] ++ []) ++ (([] ++ []) ++ []))))) G0 sc_read_number rfl ?hio (fun cdv A outer s H E hr => ?body) (fun _ _ h => h), m0, G0.kp, b0, fun_look G0⟩
  case body =>
    unfold b_read_number le_read_number_1 lc_read_number_1
    refine' ⟨_, (sns_cons (sns_set (i := 2) sc_read_number.nd rfl (Or.inl rfl) (snd_var (x := "") (pv 0)))
    (sns_cons (sns_if (snb_cmp (op_eqD hr.units) ok_eq (snd_o (snd_sl (snd_pk (pv 0)) snp_no (snp_in snd_int))) (snd_o snd_str) (nomark _))
    (sns_one (sns_set (i := 2) sc_read_number.nd rfl (Or.inl rfl) (snd_sl (snd_pk (pv 0)) (snp_in snd_int) snp_no)))
    sns_nil)
    (sns_cons (sns_if (snb_v (snv_or (snb_not (snb_chain op_le op_le ok_cmp ok_cmp (snd_o snd_int) (snd_o (snd_bi call_len ok_len rfl z_len PySem.boot_len (snd_acons (snd_pk (pv 2)) snd_anil))) (snd_pk (pv 1)))) (snv_or1 (snb_cmp (op_neD hr.units) ok_ne (snd_o ?lc1) (snd_o (snd_lst snd_anil)) (nomark _)))))
    (sns_one (sns_raiseOwn I_NoText e_NoText rfl (L2N.takes_of rfl rfl rfl rfl) rfl))
    sns_nil)
    (sns_cons (sns_if (snb_v (snv_and (snb_cmp (op_eqD hr.units) ok_eq (snd_o (snd_ix (snd_pk (pv 2)) (snd_o snd_int) (fun _ _ => rfl))) (snd_o snd_str) (nomark _)) (snv_and1 (snb_cmp (op_neD hr.units) ok_ne (snd_pk (pv 0)) (snd_o snd_str) (nomark _)))))
    (sns_one (sns_raiseOwn I_NoText e_NoText rfl (L2N.takes_of rfl rfl rfl rfl) rfl))
    sns_nil)
    (sns_one (sns_ret (snd_bt call_int_str ok_intS rfl z_int PyProof.Rows.boot_int (snd_acons (snd_pk (pv 0)) snd_anil))))))))⟩
    case lc1 =>
      refine' snd_lc2 (own := [("sign", 3)]) rfl sc_read_number.nd ?qi1 (blkOk_by (own := [("sign", 3)]) (N := N_read_number) (sc := defScope st_read_number) (by decide +kernel)) ?qg1 ?qt1 ?qe1 s ?qw1 ?qr1 ?qs1
      case qi1 =>
        refine' (sni_str (snd_o (snd_var (x := "") (pv 2))))
      case qg1 =>
        refine' (fun _ _ _ _ _ => (sng_name (i := 3) sc_read_number.nd rfl (Or.inl rfl)))
      case qt1 =>
        refine' (fun _ _ _ _ _ => pts_if (snb_cmp (op_sNotIn (units65 hr)) ok_sIn (snd_pk (pv 3)) (snd_o (snd_glob rfl g_FIGURES r_FIGURES p_FIGURES)) rfl))
      case qe1 =>
        refine' (fun _ _ _ _ _ => (snd_var (x := "") (pv 3)))
      case qw1 => decide
      case qr1 => intros; rfl
      case qs1 => intros; rfl
  case hio => exact fun i h => nomatch h
set_option maxRecDepth 100000 in
theorem ok_read_place (D0 : DefAt K mg "read_place" st_read_place ["text"]) (H_read_number : Has P w K mg base cv 1 2 none phi_read_number "read_number" ["word", "most"]) (H_common : Has P w K mg base cv 1 2 none phi_common "common" ["one", "other"]) (c_MOST_FIGURES : GlobAt K mg "MOST_FIGURES" (D.int 30)) (X_NoText : ExcAt K mg cv "NoText" 11) (z_isinstance : mg "isinstance" = none) (z_str : mg "str" = none) : Has P w K mg base cv 2 1 none phi_read_place "read_place" ["text"] := by
  obtain ⟨f0, fd0, G0, m0, b0⟩ := D0
  obtain ⟨f_read_number, fd_read_number, G_read_number, m_read_number, k_read_number, b_read_number, _⟩ := H_read_number
  obtain ⟨f_common, fd_common, G_common, m_common, k_common, b_common, _⟩ := H_common
  obtain ⟨u_MOST_FIGURES, v_MOST_FIGURES, g_MOST_FIGURES, r_MOST_FIGURES, p_MOST_FIGURES⟩ := c_MOST_FIGURES
  obtain ⟨C_NoText, I_NoText, e_NoText⟩ := X_NoText
  refine ⟨f0, fd0, fn_ok (n := 1) (io := none) (m := b_read_place) (w := (([] ++ []) ++ (([1] ++ ([2] ++ ([3] ++ []))) ++ ([4] ++ (([] ++ []) ++ []))))) G0 sc_read_place rfl ?hio (fun cdv A outer s H E hr => ?body) (fun _ _ h => h), m0, G0.kp, b0, fun_look G0⟩
  case body =>
    unfold b_read_place
    exact ⟨_, (sns_cons (sns_if (snb_not (snb_val (snd_is kit_str rfl z_isinstance rfl z_str PyProof.Rows.boot_str (snd_pk (pv 0)))))
    (sns_one (sns_raiseOwn I_NoText e_NoText rfl (L2N.takes_of rfl rfl rfl rfl) rfl))
    sns_nil)
    (sns_cons (sns_asg (snd_mp PySem.F.plainAttrs_str PySem.F.slot_str_partition PySem.F.type_str_partition mt_partition ck_str ok_partn (snd_pk (pv 0)) (snd_acons (snd_o snd_str) snd_anil)) (sng_tup rfl (sngs_cons (sng_name (i := 1) sc_read_place.nd rfl (Or.inl rfl)) (sngs_cons (sng_name (i := 2) sc_read_place.nd rfl (Or.inl rfl)) (sngs_cons (sng_name (i := 3) sc_read_place.nd rfl (Or.inl rfl)) sngs_nil)))))
    (sns_cons (sns_set (i := 4) sc_read_place.nd rfl (Or.inl rfl) (snd_tup (snd_acons (snd_o (snd_call G_read_number (hr.mono (by decide)) rfl m_read_number k_read_number b_read_number (L2N.takes_of rfl rfl rfl rfl) (snd_acons (snd_pk (pv 1)) (snd_acons (snd_o (snd_glob rfl g_MOST_FIGURES r_MOST_FIGURES p_MOST_FIGURES)) snd_anil)))) (snd_acons (snd_o (snd_call G_read_number (hr.mono (by decide)) rfl m_read_number k_read_number b_read_number (L2N.takes_of rfl rfl rfl rfl) (snd_acons (snd_pk (pv 3)) (snd_acons (snd_o (snd_glob rfl g_MOST_FIGURES r_MOST_FIGURES p_MOST_FIGURES)) snd_anil)))) snd_anil))))
    (sns_cons (sns_if (snb_v (snv_or (snb_cmp op_lt ok_cmp (snd_o (snd_ix (snd_pk (pv 4)) (snd_o snd_int) (fun _ _ => rfl))) (snd_o snd_int) (nomark _)) (snv_or (snb_cmp (op_neD hr.units) ok_ne (snd_o (snd_call G_common (hr.mono (by decide)) rfl m_common k_common b_common (L2N.takes_of rfl rfl rfl rfl) (snd_acons (snd_o (snd_ix (snd_pk (pv 4)) (snd_o snd_int) (fun _ _ => rfl))) (snd_acons (snd_o (snd_ix (snd_pk (pv 4)) (snd_o snd_int) (fun _ _ => rfl))) snd_anil)))) (snd_o snd_int) (nomark _)) (snv_or1 (snb_v (snv_and (snb_cmp (op_eqD hr.units) ok_eq (snd_o (snd_ix (snd_pk (pv 4)) (snd_o snd_int) (fun _ _ => rfl))) (snd_o snd_int) (nomark _)) (snv_and1 (snb_cmp (op_neD hr.units) ok_ne (snd_o (snd_ix (snd_pk (pv 4)) (snd_o snd_int) (fun _ _ => rfl))) (snd_o snd_int) (nomark _)))))))))
    (sns_one (sns_raiseOwn I_NoText e_NoText rfl (L2N.takes_of rfl rfl rfl rfl) rfl))
    sns_nil)
    (sns_one (sns_ret (snd_mv (pv 4))))))))⟩
  case hio => exact fun i h => nomatch h
set_option maxRecDepth 100000 in
theorem ok_read_walk (D0 : DefAt K mg "read_walk" st_read_walk ["text"]) (H_read_place : Has P w K mg base cv 2 1 none phi_read_place "read_place" ["text"]) (c_MOST_PLACES : GlobAt K mg "MOST_PLACES" (D.int 12)) (X_NoText : ExcAt K mg cv "NoText" 11) (z_isinstance : mg "isinstance" = none) (z_len : mg "len" = none) (z_str : mg "str" = none) : Has P w K mg base cv 3 1 none phi_read_walk "read_walk" ["text"] := by
  obtain ⟨f0, fd0, G0, m0, b0⟩ := D0
  obtain ⟨f_read_place, fd_read_place, G_read_place, m_read_place, k_read_place, b_read_place, _⟩ := H_read_place
  obtain ⟨u_MOST_PLACES, v_MOST_PLACES, g_MOST_PLACES, r_MOST_PLACES, p_MOST_PLACES⟩ := c_MOST_PLACES
  obtain ⟨C_NoText, I_NoText, e_NoText⟩ := X_NoText
  refine ⟨f0, fd0, fn_ok (n := 1) (io := none) (m := b_read_walk) (w := (([] ++ []) ++ ([1] ++ (([] ++ []) ++ [])))) G0 sc_read_walk rfl ?hio (fun cdv A outer s H E hr => ?body) (fun _ _ h => h), m0, G0.kp, b0, fun_look G0⟩
  case body =>
    unfold b_read_walk le_read_walk_1 lc_read_walk_1
    refine' ⟨_, (sns_cons (sns_if (snb_not (snb_val (snd_is kit_str rfl z_isinstance rfl z_str PyProof.Rows.boot_str (snd_pk (pv 0)))))
    (sns_one (sns_raiseOwn I_NoText e_NoText rfl (L2N.takes_of rfl rfl rfl rfl) rfl))
    sns_nil)
    (sns_cons (sns_set (i := 1) sc_read_walk.nd rfl (Or.inl rfl) (snd_mp PySem.F.plainAttrs_str PySem.F.slot_str_split PySem.F.type_str_split mt_split ck_str ok_split (snd_pk (pv 0)) (snd_acons (snd_o snd_str) snd_anil)))
    (sns_cons (sns_if (snb_not (snb_chain op_le op_le ok_cmp ok_cmp (snd_o snd_int) (snd_o (snd_bi call_len ok_len rfl z_len PySem.boot_len (snd_acons (snd_pk (pv 1)) snd_anil))) (snd_o (snd_glob rfl g_MOST_PLACES r_MOST_PLACES p_MOST_PLACES))))
    (sns_one (sns_raiseOwn I_NoText e_NoText rfl (L2N.takes_of rfl rfl rfl rfl) rfl))
    sns_nil)
    (sns_one (sns_ret ?lc1)))))⟩
    case lc1 =>
      refine' snd_lcE2 (own := [("word", 2)]) rfl rfl (L2N.takes_of rfl rfl rfl rfl) rfl sc_read_walk.nd ?qi1 (blkOk_by (own := [("word", 2)]) (N := N_read_walk) (sc := defScope st_read_walk) (by decide +kernel)) ?qg1 ?qt1 ?qe1 s ?qw1 ?qr1 ?qs1
      case qi1 =>
        refine' (sni_list (snd_o (snd_var (x := "") (pv 1))))
      case qg1 =>
        refine' (fun _ _ _ _ _ => (sng_name (i := 2) sc_read_walk.nd rfl (Or.inl rfl)))
      case qt1 =>
        refine' (fun _ _ _ _ _ => pts_no)
      case qe1 =>
        refine' (fun _ _ _ _ _ _ _ tkb => (snd_call G_read_place (hr.mono (by decide)) rfl m_read_place k_read_place b_read_place tkb (snd_acons (snd_pk (pv 2)) snd_anil)))
      case qw1 => decide
      case qr1 => intros; rfl
      case qs1 => intros; rfl
  case hio => exact fun i h => nomatch h
set_option maxRecDepth 100000 in
theorem ok_law_cell_at (D0 : DefAt K mg "_law_cell_at" st_law_cell_at ["_law_script", "_law_k"]) (z_len : mg "len" = none) : Has P w K mg base cv 1 2 none phi_law_cell_at "_law_cell_at" ["_law_script", "_law_k"] := by
  obtain ⟨f0, fd0, G0, m0, b0⟩ := D0
  refine ⟨f0, fd0, fn_ok (n := 2) (io := none) (m := b_law_cell_at) (w := (([] ++ []) ++ [])) G0 sc_law_cell_at rfl ?hio (fun cdv A outer s H E hr => ?body) (fun _ _ h => h), m0, G0.kp, b0, fun_look G0⟩
  case body =>
    unfold b_law_cell_at
    exact ⟨_, (sns_cons (sns_if (snb_cmp op_lt ok_cmp (snd_pk (pv 1)) (snd_o (snd_bi call_len ok_len rfl z_len PySem.boot_len (snd_acons (snd_pk (pv 0)) snd_anil))) (nomark _))
    (sns_one (sns_ret (snd_ix (snd_pk (pv 0)) (snd_pk (pv 1)) (fun _ _ => rfl))))
    sns_nil)
    (sns_one (sns_ret snd_int)))⟩
  case hio => exact fun i h => nomatch h
set_option maxRecDepth 100000 in
theorem ok_law_number (D0 : DefAt K mg "_law_number" st_law_number ["_law_script", "_law_k"]) (H_law_cell_at : Has P w K mg base cv 1 2 none phi_law_cell_at "_law_cell_at" ["_law_script", "_law_k"]) : Has P w K mg base cv 2 2 none phi_law_number "_law_number" ["_law_script", "_law_k"] := by
  obtain ⟨f0, fd0, G0, m0, b0⟩ := D0
  obtain ⟨f_law_cell_at, fd_law_cell_at, G_law_cell_at, m_law_cell_at, k_law_cell_at, b_law_cell_at, _⟩ := H_law_cell_at
  refine ⟨f0, fd0, fn_ok (n := 2) (io := none) (m := b_law_number) (w := ([2] ++ (([] ++ []) ++ ([3] ++ [])))) G0 sc_law_number rfl ?hio (fun cdv A outer s H E hr => ?body) (fun _ _ h => h), m0, G0.kp, b0, fun_look G0⟩
  case body =>
    unfold b_law_number
    exact ⟨_, (sns_cons (sns_set (i := 2) sc_law_number.nd rfl (Or.inl rfl) (snd_call G_law_cell_at (hr.mono (by decide)) rfl m_law_cell_at k_law_cell_at b_law_cell_at (L2N.takes_of rfl rfl rfl rfl) (snd_acons (snd_pk (pv 0)) (snd_acons (snd_pk (pv 1)) snd_anil))))
    (sns_cons (sns_if (snb_cmp op_ge ok_cmp (snd_pk (pv 2)) (snd_o (snd_pow (snd_o snd_int) (snd_o snd_int))) (nomark _))
    (sns_one (sns_ret (snd_mv (pv 2))))
    sns_nil)
    (sns_cons (sns_set (i := 3) sc_law_number.nd rfl (Or.inl rfl) (snd_mod (snd_o (snd_mul (snd_o (snd_add (snd_pk (pv 2)) (snd_o (snd_mul (snd_o snd_int) (snd_o (snd_add (snd_o (snd_add (snd_o (snd_mul (snd_pk (pv 1)) (snd_pk (pv 1)))) (snd_pk (pv 1)))) (snd_o snd_int))))))) (snd_o snd_int))) (snd_o (snd_pow (snd_o snd_int) (snd_o snd_int)))))
    (sns_one (sns_ret (snd_mod (snd_o (snd_div (snd_o (snd_mul (snd_pk (pv 3)) (snd_pk (pv 3)))) (snd_o (snd_pow (snd_o snd_int) (snd_o snd_int))))) (snd_o (snd_pow (snd_o snd_int) (snd_o snd_int)))))))))⟩
  case hio => exact fun i h => nomatch h
set_option maxRecDepth 100000 in
theorem ok_law_common (D0 : DefAt K mg "_law_common" st_law_common ["_law_one", "_law_other"]) (z_abs : mg "abs" = none) : Has P w K mg base cv 1 2 none phi_law_common "_law_common" ["_law_one", "_law_other"] := by
  obtain ⟨f0, fd0, G0, m0, b0⟩ := D0
  refine ⟨f0, fd0, fn_ok (n := 2) (io := none) (m := b_law_common) (w := ([0, 1] ++ ([0, 1] ++ []))) G0 sc_law_common rfl ?hio (fun cdv A outer s H E hr => ?body) (fun _ _ h => h), m0, G0.kp, b0, fun_look G0⟩
  case body =>
    unfold b_law_common wb_law_common_1 wc_law_common_1
    exact ⟨_, (sns_cons (sns_par (i := 0) (j := 1) rfl sc_law_common.nd rfl rfl (by decide) rfl rfl (snd_acons (snd_o (snd_bi call_abs ok_abs rfl z_abs boot_abs (snd_acons (snd_pk (pv 0)) snd_anil))) (snd_acons (snd_o (snd_bi call_abs ok_abs rfl z_abs boot_abs (snd_acons (snd_pk (pv 1)) snd_anil))) snd_anil)))
    (sns_cons (sns_while (passes_of rfl) (snb_cmp op_gt ok_cmp (snd_pk (pv 1)) (snd_o snd_int) (nomark _))
    (sns_one (sns_par (i := 0) (j := 1) rfl sc_law_common.nd rfl rfl (by decide) rfl rfl (snd_acons (snd_o (snd_var (x := "") (pv 1))) (snd_acons (snd_o (snd_mod (snd_pk (pv 0)) (snd_pk (pv 1)))) snd_anil)))))
    (sns_one (sns_ret (snd_mv (pv 0))))))⟩
  case hio => exact fun i h => nomatch h
set_option maxRecDepth 100000 in
theorem ok_law_kind (D0 : DefAt K mg "_law_kind" st_law_kind ["_law_e"]) (hcv : ∀ c, cv c = .ref (dv c)) (ec : ∀ c, c ∈ ([11] : List Nat) → ExcC K (dv c)) (k_NoEnd : KitAt K mg dv [11] "NoEnd" (fun c => c == 4)) (k_NoSymbol : KitAt K mg dv [11] "NoSymbol" (fun c => c == 3)) (k_NoLevel : KitAt K mg dv [11] "NoLevel" (fun c => c == 2)) (k_NoPlace : KitAt K mg dv [11] "NoPlace" (fun c => c == 1)) (k_NoDeed : KitAt K mg dv [11] "NoDeed" (fun c => c == 8)) (k_NotClosed : KitAt K mg dv [11] "NotClosed" (fun c => c == 7)) (k_NoRow : KitAt K mg dv [11] "NoRow" (fun c => c == 6)) (k_Apart : KitAt K mg dv [11] "Apart" (fun c => c == 5)) (k_NoName : KitAt K mg dv [11] "NoName" (fun c => c == 12)) (k_NoText : KitAt K mg dv [11] "NoText" (fun c => c == 11)) (k_NoForm : KitAt K mg dv [11] "NoForm" (fun c => c == 10)) (k_NoPart : KitAt K mg dv [11] "NoPart" (fun c => c == 9)) (t_ValueError : KitT K dv [11] "ValueError" (fun c => true)) (z_ValueError : mg "ValueError" = none) (z_isinstance : mg "isinstance" = none) : HasX P w K mg base cv 1 1 [11] phi_law_kind "_law_kind" ["_law_e"] := by
  obtain ⟨f0, fd0, G0, m0, b0⟩ := D0
  obtain ⟨CK_NoEnd, g_NoEnd, t_NoEnd⟩ := k_NoEnd
  obtain ⟨CK_NoSymbol, g_NoSymbol, t_NoSymbol⟩ := k_NoSymbol
  obtain ⟨CK_NoLevel, g_NoLevel, t_NoLevel⟩ := k_NoLevel
  obtain ⟨CK_NoPlace, g_NoPlace, t_NoPlace⟩ := k_NoPlace
  obtain ⟨CK_NoDeed, g_NoDeed, t_NoDeed⟩ := k_NoDeed
  obtain ⟨CK_NotClosed, g_NotClosed, t_NotClosed⟩ := k_NotClosed
  obtain ⟨CK_NoRow, g_NoRow, t_NoRow⟩ := k_NoRow
  obtain ⟨CK_Apart, g_Apart, t_Apart⟩ := k_Apart
  obtain ⟨CK_NoName, g_NoName, t_NoName⟩ := k_NoName
  obtain ⟨CK_NoText, g_NoText, t_NoText⟩ := k_NoText
  obtain ⟨CK_NoForm, g_NoForm, t_NoForm⟩ := k_NoForm
  obtain ⟨CK_NoPart, g_NoPart, t_NoPart⟩ := k_NoPart
  refine ⟨f0, fd0, fun c hcs => fn_okX (n := 1) (m := b_law_kind c) (w := ([1] ++ ([1] ++ ([2] ++ ([2] ++ ([2] ++ (([] ++ []) ++ []))))))) G0 sc_law_kind rfl (fun cdv A outer s H E p hr hh hz hf => ?body) (fun _ _ _ h => h), m0, G0.kp, b0⟩
  case body =>
    unfold b_law_kind
    exact ⟨_, (sns_cons (sns_set (i := 1) sc_law_kind.nd rfl (Or.inl rfl) (snd_lst (snd_acons (snd_o snd_str) (snd_acons (snd_o snd_str) (snd_acons (snd_o snd_str) (snd_acons (snd_o snd_str) (snd_acons (snd_o snd_str) (snd_acons (snd_o snd_str) (snd_acons (snd_o snd_str) (snd_acons (snd_o snd_str) (snd_acons (snd_o snd_str) (snd_acons (snd_o snd_str) snd_anil))))))))))))
    (sns_cons (sns_set (i := 1) sc_law_kind.nd rfl (Or.inl rfl) (snd_add (snd_pk (pv 1)) (snd_o (snd_lst (snd_acons (snd_o snd_str) (snd_acons (snd_o snd_str) snd_anil))))))
    (sns_cons (sns_set (i := 2) sc_law_kind.nd rfl (Or.inl rfl) (snd_lst (snd_acons (snd_o (snd_isXK (pe := p) (p := fun c => (c == 1)) (cvl := .ref CK_NoPlace) (u := .ref CK_NoPlace) hcv hcs ec List.mem_cons_self hz hf rfl z_isinstance (pe_glob rfl g_NoPlace rfl) (fun _ h => h) t_NoPlace (snd_pk (pv 0)))) (snd_acons (snd_o (snd_isXK (pe := p) (p := fun c => (c == 2)) (cvl := .ref CK_NoLevel) (u := .ref CK_NoLevel) hcv hcs ec List.mem_cons_self hz hf rfl z_isinstance (pe_glob rfl g_NoLevel rfl) (fun _ h => h) t_NoLevel (snd_pk (pv 0)))) (snd_acons (snd_o (snd_isXK (pe := p) (p := fun c => (c == 3)) (cvl := .ref CK_NoSymbol) (u := .ref CK_NoSymbol) hcv hcs ec List.mem_cons_self hz hf rfl z_isinstance (pe_glob rfl g_NoSymbol rfl) (fun _ h => h) t_NoSymbol (snd_pk (pv 0)))) (snd_acons (snd_o (snd_isXK (pe := p) (p := fun c => (c == 4)) (cvl := .ref CK_NoEnd) (u := .ref CK_NoEnd) hcv hcs ec List.mem_cons_self hz hf rfl z_isinstance (pe_glob rfl g_NoEnd rfl) (fun _ h => h) t_NoEnd (snd_pk (pv 0)))) snd_anil))))))
    (sns_cons (sns_set (i := 2) sc_law_kind.nd rfl (Or.inl rfl) (snd_add (snd_pk (pv 2)) (snd_o (snd_lst (snd_acons (snd_o (snd_isXK (pe := p) (p := fun c => (c == 5)) (cvl := .ref CK_Apart) (u := .ref CK_Apart) hcv hcs ec List.mem_cons_self hz hf rfl z_isinstance (pe_glob rfl g_Apart rfl) (fun _ h => h) t_Apart (snd_pk (pv 0)))) (snd_acons (snd_o (snd_isXK (pe := p) (p := fun c => (c == 6)) (cvl := .ref CK_NoRow) (u := .ref CK_NoRow) hcv hcs ec List.mem_cons_self hz hf rfl z_isinstance (pe_glob rfl g_NoRow rfl) (fun _ h => h) t_NoRow (snd_pk (pv 0)))) (snd_acons (snd_o (snd_isXK (pe := p) (p := fun c => (c == 7)) (cvl := .ref CK_NotClosed) (u := .ref CK_NotClosed) hcv hcs ec List.mem_cons_self hz hf rfl z_isinstance (pe_glob rfl g_NotClosed rfl) (fun _ h => h) t_NotClosed (snd_pk (pv 0)))) (snd_acons (snd_o (snd_isXK (pe := p) (p := fun c => (c == 8)) (cvl := .ref CK_NoDeed) (u := .ref CK_NoDeed) hcv hcs ec List.mem_cons_self hz hf rfl z_isinstance (pe_glob rfl g_NoDeed rfl) (fun _ h => h) t_NoDeed (snd_pk (pv 0)))) snd_anil))))))))
    (sns_cons (sns_set (i := 2) sc_law_kind.nd rfl (Or.inl rfl) (snd_add (snd_pk (pv 2)) (snd_o (snd_lst (snd_acons (snd_o (snd_isXK (pe := p) (p := fun c => (c == 9)) (cvl := .ref CK_NoPart) (u := .ref CK_NoPart) hcv hcs ec List.mem_cons_self hz hf rfl z_isinstance (pe_glob rfl g_NoPart rfl) (fun _ h => h) t_NoPart (snd_pk (pv 0)))) (snd_acons (snd_o (snd_isXK (pe := p) (p := fun c => (c == 10)) (cvl := .ref CK_NoForm) (u := .ref CK_NoForm) hcv hcs ec List.mem_cons_self hz hf rfl z_isinstance (pe_glob rfl g_NoForm rfl) (fun _ h => h) t_NoForm (snd_pk (pv 0)))) (snd_acons (snd_o (snd_isXK (pe := p) (p := fun c => (c == 11)) (cvl := .ref CK_NoText) (u := .ref CK_NoText) hcv hcs ec List.mem_cons_self hz hf rfl z_isinstance (pe_glob rfl g_NoText rfl) (fun _ h => h) t_NoText (snd_pk (pv 0)))) (snd_acons (snd_o (snd_isXK (pe := p) (p := fun c => (c == 12)) (cvl := .ref CK_NoName) (u := .ref CK_NoName) hcv hcs ec List.mem_cons_self hz hf rfl z_isinstance (pe_glob rfl g_NoName rfl) (fun _ h => h) t_NoName (snd_pk (pv 0)))) snd_anil))))))))
    (sns_cons (sns_if (snb_v (snv_or (snb_cmp (op_neD (unitsH hr)) ok_ne (snd_o (snd_mp PySem.F.plainAttrs_list PySem.F.slot_list_count PySem.F.type_list_count (mt_lcountD (unitsH hr)) ck_lst ok_cn (snd_pk (pv 2)) (snd_acons (snd_o snd_bl) snd_anil))) (snd_o snd_int) (nomark _)) (snv_or1 (snb_not (snb_val (snd_isXK (pe := p) (p := fun c => true) (cvl := .ty "ValueError") (u := .type "ValueError") hcv hcs ec List.mem_cons_self hz hf rfl z_isinstance (pe_bltn rfl z_ValueError rfl rfl) (fun _ h => h) t_ValueError (snd_pk (pv 0))))))))
    (sns_one (sns_ret snd_str))
    sns_nil)
    (sns_one (sns_ret (snd_ix (snd_pk (pv 1)) (snd_o (snd_mp PySem.F.plainAttrs_list PySem.F.slot_list_index PySem.F.type_list_index mt_index ck_lst ok_idB (snd_pk (pv 2)) (snd_acons (snd_o snd_bl) snd_anil))) (fun _ _ => rfl))))))))))⟩
set_option maxRecDepth 100000 in
theorem ok_law_place (D0 : DefAt K mg "_law_place" st_law_place ["_law_top", "_law_bottom"]) (H_law_common : Has P w K mg base cv 1 2 none phi_law_common "_law_common" ["_law_one", "_law_other"]) : Has P w K mg base cv 2 2 none phi_law_place "_law_place" ["_law_top", "_law_bottom"] := by
  obtain ⟨f0, fd0, G0, m0, b0⟩ := D0
  obtain ⟨f_law_common, fd_law_common, G_law_common, m_law_common, k_law_common, b_law_common, _⟩ := H_law_common
  refine ⟨f0, fd0, fn_ok (n := 2) (io := none) (m := b_law_place) (w := ([2] ++ (([2] ++ []) ++ []))) G0 sc_law_place rfl ?hio (fun cdv A outer s H E hr => ?body) (fun _ _ h => h), m0, G0.kp, b0, fun_look G0⟩
  case body =>
    unfold b_law_place
    exact ⟨_, (sns_cons (sns_set (i := 2) sc_law_place.nd rfl (Or.inl rfl) (snd_call G_law_common (hr.mono (by decide)) rfl m_law_common k_law_common b_law_common (L2N.takes_of rfl rfl rfl rfl) (snd_acons (snd_pk (pv 0)) (snd_acons (snd_pk (pv 1)) snd_anil))))
    (sns_cons (sns_if (snb_v (snv_or (snb_cmp op_lt ok_cmp (snd_pk (pv 1)) (snd_o snd_int) (nomark _)) (snv_or1 (snb_v (snv_and (snb_cmp (op_eqD hr.units) ok_eq (snd_pk (pv 1)) (snd_o snd_int) (nomark _)) (snv_and1 (snb_cmp op_lt ok_cmp (snd_pk (pv 0)) (snd_o snd_int) (nomark _))))))))
    (sns_one (sns_set (i := 2) sc_law_place.nd rfl (Or.inl rfl) (snd_sub (snd_o snd_int) (snd_pk (pv 2)))))
    sns_nil)
    (sns_one (sns_ret (snd_tup (snd_acons (snd_o (snd_div (snd_pk (pv 0)) (snd_pk (pv 2)))) (snd_acons (snd_o (snd_div (snd_pk (pv 1)) (snd_pk (pv 2)))) snd_anil)))))))⟩
  case hio => exact fun i h => nomatch h
set_option maxRecDepth 100000 in
theorem ok_law_drawn_place (D0 : DefAt K mg "_law_drawn_place" st_law_drawn_place ["_law_number_here"]) (H_law_place : Has P w K mg base cv 2 2 none phi_law_place "_law_place" ["_law_top", "_law_bottom"]) : Has P w K mg base cv 3 1 none phi_law_drawn_place "_law_drawn_place" ["_law_number_here"] := by
  obtain ⟨f0, fd0, G0, m0, b0⟩ := D0
  obtain ⟨f_law_place, fd_law_place, G_law_place, m_law_place, k_law_place, b_law_place, _⟩ := H_law_place
  refine ⟨f0, fd0, fn_ok (n := 1) (io := none) (m := b_law_drawn_place) (w := ([1] ++ ([0] ++ ([2] ++ ([3] ++ (([] ++ []) ++ [])))))) G0 sc_law_drawn_place rfl ?hio (fun cdv A outer s H E hr => ?body) (fun _ _ h => h), m0, G0.kp, b0, fun_look G0⟩
  case body =>
    unfold b_law_drawn_place
    exact ⟨_, (sns_cons (sns_set (i := 1) sc_law_drawn_place.nd rfl (Or.inl rfl) (snd_ix (snd_o (snd_lst (snd_acons (snd_o snd_int) (snd_acons (snd_o snd_int) (snd_acons (snd_o (snd_pow (snd_o snd_int) (snd_o snd_int))) (snd_acons (snd_o (snd_pow (snd_o snd_int) (snd_o snd_int))) snd_anil)))))) (snd_o (snd_mod (snd_pk (pv 0)) (snd_o snd_int))) (fun _ _ => rfl)))
    (sns_cons (sns_set (i := 0) sc_law_drawn_place.nd rfl (Or.inl rfl) (snd_div (snd_pk (pv 0)) (snd_o snd_int)))
    (sns_cons (sns_set (i := 2) sc_law_drawn_place.nd rfl (Or.inl rfl) (snd_mul (snd_o (snd_mod (snd_pk (pv 0)) (snd_pk (pv 1)))) (snd_o (snd_sub (snd_o snd_int) (snd_o (snd_mul (snd_o snd_int) (snd_o (snd_mod (snd_o (snd_div (snd_pk (pv 0)) (snd_pk (pv 1)))) (snd_o snd_int)))))))))
    (sns_cons (sns_set (i := 3) sc_law_drawn_place.nd rfl (Or.inl rfl) (snd_mod (snd_o (snd_div (snd_pk (pv 0)) (snd_o (snd_mul (snd_o snd_int) (snd_pk (pv 1)))))) (snd_pk (pv 1))))
    (sns_cons (sns_if (snb_v (snv_and (snb_cmp (op_eqD hr.units) ok_eq (snd_pk (pv 2)) (snd_o snd_int) (nomark _)) (snv_and1 (snb_cmp (op_eqD hr.units) ok_eq (snd_pk (pv 3)) (snd_o snd_int) (nomark _)))))
    (sns_one (sns_ret (snd_tup (snd_acons (snd_o snd_int) (snd_acons (snd_o snd_int) snd_anil)))))
    sns_nil)
    (sns_one (sns_ret (snd_call G_law_place (hr.mono (by decide)) rfl m_law_place k_law_place b_law_place (L2N.takes_of rfl rfl rfl rfl) (snd_acons (snd_pk (pv 2)) (snd_acons (snd_pk (pv 3)) snd_anil))))))))))⟩
  case hio => exact fun i h => nomatch h
set_option maxRecDepth 100000 in
theorem ok_law_number_due (D0 : DefAt K mg "_law_number_due" st_law_number_due ["_law_word"]) (z_int : mg "int" = none) (z_len : mg "len" = none) (z_str : mg "str" = none) : Has P w K mg base cv 1 1 none phi_law_number_due "_law_number_due" ["_law_word"] := by
  obtain ⟨f0, fd0, G0, m0, b0⟩ := D0
  refine ⟨f0, fd0, fn_ok (n := 1) (io := none) (m := b_law_number_due) (w := ([1] ++ (([] ++ []) ++ (([] ++ []) ++ [])))) G0 sc_law_number_due rfl ?hio (fun cdv A outer s H E hr => ?body) (fun _ _ h => h), m0, G0.kp, b0, fun_look G0⟩
  case body =>
    unfold b_law_number_due le_law_number_due_1 lc_law_number_due_1
    refine' ⟨_, (sns_cons (sns_set (i := 1) sc_law_number_due.nd rfl (Or.inl rfl) (snd_if (snb_cmp (op_eqD hr.units) ok_eq (snd_o (snd_sl (snd_pk (pv 0)) snp_no (snp_in snd_int))) (snd_o snd_str) (nomark _)) (snd_sl (snd_pk (pv 0)) (snp_in snd_int) snp_no) (snd_var (x := "") (pv 0))))
    (sns_cons (sns_if (snb_v (snv_or (snb_cmp (op_eqD hr.units) ok_eq (snd_pk (pv 1)) (snd_o snd_str) (nomark _)) (snv_or (snb_cmp op_gt ok_cmp (snd_o (snd_bi call_len ok_len rfl z_len PySem.boot_len (snd_acons (snd_pk (pv 1)) snd_anil))) (snd_o snd_int) (nomark _)) (snv_or1 (snb_cmp (op_neD hr.units) ok_ne (snd_o ?lc1) (snd_o (snd_lst snd_anil)) (nomark _))))))
    (sns_one (sns_ret snd_non))
    sns_nil)
    (sns_cons (sns_if (snb_cmp (op_neD hr.units) ok_ne (snd_o (snd_bt call_str_int ok_str rfl z_str PyProof.Rows.boot_str (snd_acons (snd_o (snd_bt call_int_str ok_intS rfl z_int PyProof.Rows.boot_int (snd_acons (snd_pk (pv 0)) snd_anil))) snd_anil))) (snd_pk (pv 0)) (nomark _))
    (sns_one (sns_ret snd_non))
    sns_nil)
    (sns_one (sns_ret (snd_bt call_int_str ok_intS rfl z_int PyProof.Rows.boot_int (snd_acons (snd_pk (pv 0)) snd_anil)))))))⟩
    case lc1 =>
      refine' snd_lc2 (own := [("_law_sign", 2)]) rfl sc_law_number_due.nd ?qi1 (blkOk_by (own := [("_law_sign", 2)]) (N := N_law_number_due) (sc := defScope st_law_number_due) (by decide +kernel)) ?qg1 ?qt1 ?qe1 s ?qw1 ?qr1 ?qs1
      case qi1 =>
        refine' (sni_str (snd_o (snd_var (x := "") (pv 1))))
      case qg1 =>
        refine' (fun _ _ _ _ _ => (sng_name (i := 2) sc_law_number_due.nd rfl (Or.inl rfl)))
      case qt1 =>
        refine' (fun _ _ _ _ _ => pts_if (snb_cmp (op_sNotIn (units65 hr)) ok_sIn (snd_pk (pv 2)) (snd_o snd_str) rfl))
      case qe1 =>
        refine' (fun _ _ _ _ _ => (snd_var (x := "") (pv 2)))
      case qw1 => decide
      case qr1 => intros; rfl
      case qs1 => intros; rfl
  case hio => exact fun i h => nomatch h
set_option maxRecDepth 100000 in
theorem ok_law_place_due (D0 : DefAt K mg "_law_place_due" st_law_place_due ["_law_text"]) (H_law_number_due : Has P w K mg base cv 1 1 none phi_law_number_due "_law_number_due" ["_law_word"]) (H_law_common : Has P w K mg base cv 1 2 none phi_law_common "_law_common" ["_law_one", "_law_other"]) (z_len : mg "len" = none) : Has P w K mg base cv 2 1 none phi_law_place_due "_law_place_due" ["_law_text"] := by
  obtain ⟨f0, fd0, G0, m0, b0⟩ := D0
  obtain ⟨f_law_number_due, fd_law_number_due, G_law_number_due, m_law_number_due, k_law_number_due, b_law_number_due, _⟩ := H_law_number_due
  obtain ⟨f_law_common, fd_law_common, G_law_common, m_law_common, k_law_common, b_law_common, _⟩ := H_law_common
  refine ⟨f0, fd0, fn_ok (n := 1) (io := none) (m := b_law_place_due) (w := ([1] ++ (([] ++ []) ++ (([2] ++ ([3] ++ [])) ++ (([] ++ []) ++ []))))) G0 sc_law_place_due rfl ?hio (fun cdv A outer s H E hr => ?body) (fun _ _ h => h), m0, G0.kp, b0, fun_look G0⟩
  case body =>
    unfold b_law_place_due le_law_place_due_1 lc_law_place_due_1
    refine' ⟨_, (sns_cons (sns_set (i := 1) sc_law_place_due.nd rfl (Or.inl rfl) (snd_mp PySem.F.plainAttrs_str PySem.F.slot_str_split PySem.F.type_str_split mt_split ck_str ok_split (snd_pk (pv 0)) (snd_acons (snd_o snd_str) snd_anil)))
    (sns_cons (sns_if (snb_cmp (op_neD hr.units) ok_ne (snd_o (snd_bi call_len ok_len rfl z_len PySem.boot_len (snd_acons (snd_pk (pv 1)) snd_anil))) (snd_o snd_int) (nomark _))
    (sns_one (sns_ret snd_non))
    sns_nil)
    (sns_cons (sns_asg ?lc1 (sng_lst rfl (sngs_cons (sng_name (i := 2) sc_law_place_due.nd rfl (Or.inl rfl)) (sngs_cons (sng_name (i := 3) sc_law_place_due.nd rfl (Or.inl rfl)) sngs_nil))))
    (sns_cons (sns_if (snb_v (snv_or (snb_cmp op_isN ok_isN (snd_pk (pv 2)) (snd_o snd_non) (nomark _)) (snv_or (snb_cmp op_isN ok_isN (snd_pk (pv 3)) (snd_o snd_non) (nomark _)) (snv_or (snb_cmp (op_neD hr.units) ok_ne (snd_o (snd_call G_law_common (hr.mono (by decide)) rfl m_law_common k_law_common b_law_common (L2N.takes_of rfl rfl rfl rfl) (snd_acons (snd_pk (pv 2)) (snd_acons (snd_pk (pv 3)) snd_anil)))) (snd_o snd_int) (nomark _)) (snv_or (snb_cmp op_lt ok_cmp (snd_pk (pv 3)) (snd_o snd_int) (nomark _)) (snv_or1 (snb_v (snv_and (snb_cmp (op_eqD hr.units) ok_eq (snd_pk (pv 3)) (snd_o snd_int) (nomark _)) (snv_and1 (snb_cmp (op_neD hr.units) ok_ne (snd_pk (pv 2)) (snd_o snd_int) (nomark _)))))))))))
    (sns_one (sns_ret snd_non))
    sns_nil)
    (sns_one (sns_ret (snd_tup (snd_acons (snd_o (snd_var (x := "") (pv 2))) (snd_acons (snd_o (snd_var (x := "") (pv 3))) snd_anil)))))))))⟩
    case lc1 =>
      refine' snd_lc2 (own := [("_law_part", 4)]) rfl sc_law_place_due.nd ?qi1 (blkOk_by (own := [("_law_part", 4)]) (N := N_law_place_due) (sc := defScope st_law_place_due) (by decide +kernel)) ?qg1 ?qt1 ?qe1 s ?qw1 ?qr1 ?qs1
      case qi1 =>
        refine' (sni_list (snd_o (snd_var (x := "") (pv 1))))
      case qg1 =>
        refine' (fun _ _ _ _ _ => (sng_name (i := 4) sc_law_place_due.nd rfl (Or.inl rfl)))
      case qt1 =>
        refine' (fun _ _ _ _ _ => pts_no)
      case qe1 =>
        refine' (fun _ _ _ _ _ => (snd_call G_law_number_due (hr.mono (by decide)) rfl m_law_number_due k_law_number_due b_law_number_due takes0N (snd_acons (snd_pk (pv 4)) snd_anil)))
      case qw1 => decide
      case qr1 => intros; rfl
      case qs1 => intros; rfl
  case hio => exact fun i h => nomatch h
set_option maxRecDepth 100000 in
theorem ok_law_walk_due (D0 : DefAt K mg "_law_walk_due" st_law_walk_due ["_law_text"]) (H_law_place_due : Has P w K mg base cv 2 1 none phi_law_place_due "_law_place_due" ["_law_text"]) (z_len : mg "len" = none) : Has P w K mg base cv 3 1 none phi_law_walk_due "_law_walk_due" ["_law_text"] := by
  obtain ⟨f0, fd0, G0, m0, b0⟩ := D0
  obtain ⟨f_law_place_due, fd_law_place_due, G_law_place_due, m_law_place_due, k_law_place_due, b_law_place_due, _⟩ := H_law_place_due
  refine ⟨f0, fd0, fn_ok (n := 1) (io := none) (m := b_law_walk_due) (w := ([1] ++ (([] ++ []) ++ []))) G0 sc_law_walk_due rfl ?hio (fun cdv A outer s H E hr => ?body) (fun _ _ h => h), m0, G0.kp, b0, fun_look G0⟩
  case body =>
    unfold b_law_walk_due le_law_walk_due_1 lc_law_walk_due_1
    refine' ⟨_, (sns_cons ?lc1
    (sns_cons (sns_if (snb_v (snv_or (snb_cmp (op_sIn (units65 hr)) ok_sIn (snd_o snd_non) (snd_pk (pv 1)) rfl) (snv_or1 (snb_not (snb_chain op_le op_le ok_cmp ok_cmp (snd_o snd_int) (snd_o (snd_bi call_len ok_len rfl z_len PySem.boot_len (snd_acons (snd_pk (pv 1)) snd_anil))) (snd_o snd_int))))))
    (sns_one (sns_ret snd_non))
    sns_nil)
    (sns_one (sns_ret (snd_mv (pv 1))))))⟩
    case lc1 =>
      refine' sns_setLc2 (i := 1) (own := [("_law_word", 2)]) rfl sc_law_walk_due.nd rfl rfl (sw_true rfl rfl rfl (by decide +kernel)) ?qi1 (blkOk_by (own := [("_law_word", 2)]) (N := N_law_walk_due) (sc := defScope st_law_walk_due) (by decide +kernel)) ?qg1 ?qt1 ?qe1 s ?qw1 ?qr1 ?qs1
      case qi1 =>
        refine' (sni_list (snd_o (snd_mp PySem.F.plainAttrs_str PySem.F.slot_str_split PySem.F.type_str_split mt_split ck_str ok_split (snd_pk (pv 0)) (snd_acons (snd_o snd_str) snd_anil))))
      case qg1 =>
        refine' (fun _ _ _ _ _ => (sng_name (i := 2) sc_law_walk_due.nd rfl (Or.inl rfl)))
      case qt1 =>
        refine' (fun _ _ _ _ _ => pts_no)
      case qe1 =>
        refine' (fun _ _ _ _ _ => (snd_call G_law_place_due (hr.mono (by decide)) rfl m_law_place_due k_law_place_due b_law_place_due takes0N (snd_acons (snd_pk (pv 2)) snd_anil)))
      case qw1 => decide
      case qr1 => intros; rfl
      case qs1 => intros; rfl
  case hio => exact fun i h => nomatch h
set_option maxRecDepth 100000 in
theorem ok_law_asked (D0 : DefAt K mg "_law_asked" st_law_asked ["_law_which", "_law_thing"]) (H_read_place : Has P w K mg base cv 2 1 none phi_read_place "read_place" ["text"]) (H_read_walk : Has P w K mg base cv 3 1 none phi_read_walk "read_walk" ["text"]) (XE_RoadError : ExmAt K mg cv [11] "RoadError") (HX_law_kind : HasX P w K mg base cv 1 1 [11] phi_law_kind "_law_kind" ["_law_e"]) : Has P w K mg base cv 4 2 none phi_law_asked "_law_asked" ["_law_which", "_law_thing"] := by
  obtain ⟨f0, fd0, G0, m0, b0⟩ := D0
  obtain ⟨f_read_place, fd_read_place, G_read_place, m_read_place, k_read_place, b_read_place, _⟩ := H_read_place
  obtain ⟨f_read_walk, fd_read_walk, G_read_walk, m_read_walk, k_read_walk, b_read_walk, _⟩ := H_read_walk
  obtain ⟨CE_RoadError, gE_RoadError, xE_RoadError⟩ := XE_RoadError
  obtain ⟨f_law_kind, fd_law_kind, G_law_kind, m_law_kind, k_law_kind, b_law_kind⟩ := HX_law_kind
  refine ⟨f0, fd0, fn_ok (n := 2) (io := none) (m := b_law_asked) (w := ((([] ++ []) ++ []) ++ ([2] ++ ([] ++ [2])))) G0 sc_law_asked rfl ?hio (fun cdv A outer s H E hr => ?body) (fun _ _ h => h), m0, G0.kp, b0, fun_look G0⟩
  case body =>
    unfold b_law_asked te_law_asked_1 tb_law_asked_1
    exact ⟨_, (sns_one (sns_try2 (i := 2) (cs := [11]) (RE := .ref CE_RoadError) rfl rfl sc_law_asked.nd rfl rfl ⟨rfl, by decide, .inl gE_RoadError⟩ xE_RoadError (fun W pn xe tk => (sns_cons (sns_if (snb_cmp (op_eqD hr.units) ok_eq (snd_pk (pv 0)) (snd_o snd_int) (nomark _))
    (sns_one (sns_ret (snd_call G_read_place (hr.mono (by decide)) rfl m_read_place k_read_place b_read_place tk (snd_acons (snd_pk (pv 1)) snd_anil))))
    sns_nil)
    (sns_one (sns_ret (snd_call G_read_walk (hr.mono (by decide)) rfl m_read_walk k_read_walk b_read_walk tk (snd_acons (snd_pk (pv 1)) snd_anil))))))
    (fun c hcs a oe pn hz hf => (sns_one (sns_ret (snd_tup (snd_acons (snd_o snd_str) (snd_acons (snd_o (snd_callX (pe := (a, oe)) (G_law_kind c hcs) ((roomH_mark hr).mono (by decide)) rfl List.mem_cons_self hz hf rfl m_law_kind k_law_kind b_law_kind takes0N (snd_acons (snd_pk (pv 2)) snd_anil))) snd_anil))))))))⟩
  case hio => exact fun i h => nomatch h
set_option maxRecDepth 100000 in
theorem ok_law_changed (D0 : DefAt K mg "_law_changed" st_law_changed ["_law_text", "_law_number_here"]) (z_len : mg "len" = none) : Has P w K mg base cv 1 2 none phi_law_changed "_law_changed" ["_law_text", "_law_number_here"] := by
  obtain ⟨f0, fd0, G0, m0, b0⟩ := D0
  refine ⟨f0, fd0, fn_ok (n := 2) (io := none) (m := b_law_changed) (w := ([2] ++ ([3] ++ ([1] ++ (([3] ++ []) ++ ([4] ++ ([5] ++ (([] ++ []) ++ (([] ++ []) ++ []))))))))) G0 sc_law_changed rfl ?hio (fun cdv A outer s H E hr => ?body) (fun _ _ h => h), m0, G0.kp, b0, fun_look G0⟩
  case body =>
    unfold b_law_changed
    exact ⟨_, (sns_cons (sns_set (i := 2) sc_law_changed.nd rfl (Or.inl rfl) snd_str)
    (sns_cons (sns_set (i := 3) sc_law_changed.nd rfl (Or.inl rfl) (snd_ix (snd_pk (pv 2)) (snd_o (snd_mod (snd_pk (pv 1)) (snd_o (snd_bi call_len ok_len rfl z_len PySem.boot_len (snd_acons (snd_pk (pv 2)) snd_anil))))) (fun _ _ => rfl)))
    (sns_cons (sns_set (i := 1) sc_law_changed.nd rfl (Or.inl rfl) (snd_div (snd_pk (pv 1)) (snd_o (snd_bi call_len ok_len rfl z_len PySem.boot_len (snd_acons (snd_pk (pv 2)) snd_anil)))))
    (sns_cons (sns_if (snb_cmp op_gt ok_cmp (snd_o (snd_mod (snd_pk (pv 1)) (snd_o snd_int))) (snd_o snd_int) (nomark _))
    (sns_one (sns_set (i := 3) sc_law_changed.nd rfl (Or.inl rfl) (snd_ix (snd_o snd_str) (snd_o (snd_mod (snd_o (snd_div (snd_pk (pv 1)) (snd_o snd_int))) (snd_o snd_int))) (fun _ _ => rfl))))
    sns_nil)
    (sns_cons (sns_set (i := 4) sc_law_changed.nd rfl (Or.inl rfl) (snd_mod (snd_o (snd_div (snd_pk (pv 1)) (snd_o snd_int))) (snd_o (snd_add (snd_o (snd_bi call_len ok_len rfl z_len PySem.boot_len (snd_acons (snd_pk (pv 0)) snd_anil))) (snd_o snd_int)))))
    (sns_cons (sns_set (i := 5) sc_law_changed.nd rfl (Or.inl rfl) (snd_mod (snd_o (snd_div (snd_pk (pv 1)) (snd_o snd_int))) (snd_o snd_int)))
    (sns_cons (sns_if (snb_cmp (op_eqD hr.units) ok_eq (snd_pk (pv 5)) (snd_o snd_int) (nomark _))
    (sns_one (sns_ret (snd_add (snd_o (snd_add (snd_o (snd_sl (snd_pk (pv 0)) snp_no (snp_in (snd_var (x := "") (pv 4))))) (snd_pk (pv 3)))) (snd_o (snd_sl (snd_pk (pv 0)) (snp_in (snd_add (snd_pk (pv 4)) (snd_o snd_int))) snp_no)))))
    sns_nil)
    (sns_cons (sns_if (snb_cmp (op_eqD hr.units) ok_eq (snd_pk (pv 5)) (snd_o snd_int) (nomark _))
    (sns_one (sns_ret (snd_add (snd_o (snd_sl (snd_pk (pv 0)) snp_no (snp_in (snd_var (x := "") (pv 4))))) (snd_o (snd_sl (snd_pk (pv 0)) (snp_in (snd_add (snd_pk (pv 4)) (snd_o snd_int))) snp_no)))))
    sns_nil)
    (sns_one (sns_ret (snd_add (snd_o (snd_add (snd_o (snd_sl (snd_pk (pv 0)) snp_no (snp_in (snd_var (x := "") (pv 4))))) (snd_pk (pv 3)))) (snd_o (snd_sl (snd_pk (pv 0)) (snp_in (snd_var (x := "") (pv 4))) snp_no)))))))))))))⟩
  case hio => exact fun i h => nomatch h
set_option maxRecDepth 100000 in
theorem ok_law_right (D0 : DefAt K mg "_law_right" st_law_right ["_law_which", "_law_text"]) (H_law_walk_due : Has P w K mg base cv 3 1 none phi_law_walk_due "_law_walk_due" ["_law_text"]) (H_law_place_due : Has P w K mg base cv 2 1 none phi_law_place_due "_law_place_due" ["_law_text"]) (H_law_asked : Has P w K mg base cv 4 2 none phi_law_asked "_law_asked" ["_law_which", "_law_thing"]) : Has P w K mg base cv 5 2 none phi_law_right "_law_right" ["_law_which", "_law_text"] := by
  obtain ⟨f0, fd0, G0, m0, b0⟩ := D0
  obtain ⟨f_law_walk_due, fd_law_walk_due, G_law_walk_due, m_law_walk_due, k_law_walk_due, b_law_walk_due, _⟩ := H_law_walk_due
  obtain ⟨f_law_place_due, fd_law_place_due, G_law_place_due, m_law_place_due, k_law_place_due, b_law_place_due, _⟩ := H_law_place_due
  obtain ⟨f_law_asked, fd_law_asked, G_law_asked, m_law_asked, k_law_asked, b_law_asked, _⟩ := H_law_asked
  refine ⟨f0, fd0, fn_ok (n := 2) (io := none) (m := b_law_right) (w := ([2] ++ (([2] ++ []) ++ []))) G0 sc_law_right rfl ?hio (fun cdv A outer s H E hr => ?body) (fun _ _ h => h), m0, G0.kp, b0, fun_look G0⟩
  case body =>
    unfold b_law_right
    exact ⟨_, (sns_cons (sns_set (i := 2) sc_law_right.nd rfl (Or.inl rfl) (snd_ix (snd_o (snd_lst (snd_acons (snd_o (snd_call G_law_place_due (hr.mono (by decide)) rfl m_law_place_due k_law_place_due b_law_place_due (L2N.takes_of rfl rfl rfl rfl) (snd_acons (snd_pk (pv 1)) snd_anil))) (snd_acons (snd_o (snd_call G_law_walk_due (hr.mono (by decide)) rfl m_law_walk_due k_law_walk_due b_law_walk_due (L2N.takes_of rfl rfl rfl rfl) (snd_acons (snd_pk (pv 1)) snd_anil))) snd_anil)))) (snd_pk (pv 0)) (fun _ _ => rfl)))
    (sns_cons (sns_if (snb_cmp op_isN ok_isN (snd_pk (pv 2)) (snd_o snd_non) (nomark _))
    (sns_one (sns_set (i := 2) sc_law_right.nd rfl (Or.inl rfl) (snd_tup (snd_acons (snd_o snd_str) (snd_acons (snd_o snd_str) snd_anil)))))
    sns_nil)
    (sns_one (sns_ret (snd_cmp (op_eqD hr.units) ok_eq (snd_o (snd_call G_law_asked (hr.mono (by decide)) rfl m_law_asked k_law_asked b_law_asked (L2N.takes_of rfl rfl rfl rfl) (snd_acons (snd_pk (pv 0)) (snd_acons (snd_pk (pv 1)) snd_anil)))) (snd_pk (pv 2)) (nomark _))))))⟩
  case hio => exact fun i h => nomatch h
set_option maxRecDepth 100000 in
theorem ok_law (D0 : DefAt K mg "law" st_law ["_law_script"]) (H_law_number : Has P w K mg base cv 2 2 none phi_law_number "_law_number" ["_law_script", "_law_k"]) (H_law_drawn_place : Has P w K mg base cv 3 1 none phi_law_drawn_place "_law_drawn_place" ["_law_number_here"]) (H_law_right : Has P w K mg base cv 5 2 none phi_law_right "_law_right" ["_law_which", "_law_text"]) (H_law_changed : Has P w K mg base cv 1 2 none phi_law_changed "_law_changed" ["_law_text", "_law_number_here"]) (H_law_asked : Has P w K mg base cv 4 2 none phi_law_asked "_law_asked" ["_law_which", "_law_thing"]) (z_len : mg "len" = none) (z_max : mg "max" = none) (z_min : mg "min" = none) (z_range : mg "range" = none) (z_str : mg "str" = none) : Has P w K mg base cv 6 1 none phi_law "law" ["_law_script"] := by
  obtain ⟨f0, fd0, G0, m0, b0⟩ := D0
  obtain ⟨f_law_number, fd_law_number, G_law_number, m_law_number, k_law_number, b_law_number, _⟩ := H_law_number
  obtain ⟨f_law_drawn_place, fd_law_drawn_place, G_law_drawn_place, m_law_drawn_place, k_law_drawn_place, b_law_drawn_place, _⟩ := H_law_drawn_place
  obtain ⟨f_law_right, fd_law_right, G_law_right, m_law_right, k_law_right, b_law_right, _⟩ := H_law_right
  obtain ⟨f_law_changed, fd_law_changed, G_law_changed, m_law_changed, k_law_changed, b_law_changed, _⟩ := H_law_changed
  obtain ⟨f_law_asked, fd_law_asked, G_law_asked, m_law_asked, k_law_asked, b_law_asked, _⟩ := H_law_asked
  refine ⟨f0, fd0, fn_ok (n := 1) (io := none) (m := b_law) (w := (([1] ++ ([2] ++ ([3] ++ ([4] ++ ([5] ++ ([] ++ [])))))) ++ ([6] ++ ([6] ++ ([6] ++ ([6] ++ ([6] ++ (([7] ++ ([5] ++ ([] ++ []))) ++ [])))))))) G0 sc_law rfl ?hio (fun cdv A outer s H E hr => ?body) (fun _ _ h => h), m0, G0.kp, b0, fun_look G0⟩
  case body =>
    unfold b_law fb_law_4 fb_law_3 fb_law_2 fb_law_1 le_law_2 lc_law_2 le_law_1 lc_law_1
    refine' ⟨_, (sns_cons (sns_for (passes_of rfl) rfl (sni_r1 rfl z_range (snd_acons (snd_o (snd_bi (call_max2 rfl) ok_max rfl z_max boot_max (snd_acons (snd_o snd_int) (snd_acons (snd_o (snd_bi (call_min2 rfl) ok_min rfl z_min boot_min (snd_acons (snd_o snd_int) (snd_acons (snd_o (snd_bi call_len ok_len rfl z_len PySem.boot_len (snd_acons (snd_pk (pv 0)) snd_anil))) snd_anil)))) snd_anil)))) snd_anil)) (sng_name (i := 1) sc_law.nd rfl (Or.inl rfl))
    (sns_cons (sns_set (i := 2) sc_law.nd rfl (Or.inr rfl) (snd_call G_law_number (hr.mono (by decide)) rfl m_law_number k_law_number b_law_number (L2N.takes_of rfl rfl rfl rfl) (snd_acons (snd_pk (pv 0)) (snd_acons (snd_pk (pv 1)) snd_anil))))
    (sns_cons ?lc1
    (sns_cons (sns_set (i := 4) sc_law.nd rfl (Or.inl rfl) (snd_mp PySem.F.plainAttrs_str PySem.F.slot_str_join PySem.F.type_str_join mt_join ck_str ok_join (snd_o snd_str) (snd_acons (snd_o ?lc2) snd_anil)))
    (sns_one (sns_for (passes_of rfl) rfl (sni_tup (snd_o (snd_tup (snd_acons (snd_o snd_int) (snd_acons (snd_o snd_int) snd_anil))))) (sng_name (i := 5) sc_law.nd rfl (Or.inl rfl))
    (sns_one (sns_if (snb_v (snv_or (snb_not (snb_val (snd_call G_law_right (hr.mono (by decide)) rfl m_law_right k_law_right b_law_right (L2N.takes_of rfl rfl rfl rfl) (snd_acons (snd_pk (pv 5)) (snd_acons (snd_pk (pv 4)) snd_anil))))) (snv_or1 (snb_not (snb_val (snd_call G_law_right (hr.mono (by decide)) rfl m_law_right k_law_right b_law_right (L2N.takes_of rfl rfl rfl rfl) (snd_acons (snd_pk (pv 5)) (snd_acons (snd_o (snd_call G_law_changed (hr.mono (by decide)) rfl m_law_changed k_law_changed b_law_changed (L2N.takes_of rfl rfl rfl rfl) (snd_acons (snd_pk (pv 4)) (snd_acons (snd_o (snd_div (snd_pk (pv 2)) (snd_o snd_int))) snd_anil)))) snd_anil))))))))
    (sns_one (sns_ret snd_bl))
    sns_nil))))))))
    (sns_cons (sns_set (i := 6) sc_law.nd rfl (Or.inl rfl) (snd_lst (snd_acons (snd_o snd_str) (snd_acons (snd_o snd_str) (snd_acons (snd_o snd_str) (snd_acons (snd_o snd_str) (snd_acons (snd_o snd_str) (snd_acons (snd_o snd_str) (snd_acons (snd_o snd_str) (snd_acons (snd_o snd_str) snd_anil))))))))))
    (sns_cons (sns_set (i := 6) sc_law.nd rfl (Or.inl rfl) (snd_add (snd_pk (pv 6)) (snd_o (snd_lst (snd_acons (snd_o snd_str) (snd_acons (snd_o snd_str) (snd_acons (snd_o snd_str) (snd_acons (snd_o snd_str) (snd_acons (snd_o snd_str) (snd_acons (snd_o snd_str) (snd_acons (snd_o snd_str) (snd_acons (snd_o snd_str) snd_anil))))))))))))
    (sns_cons (sns_set (i := 6) sc_law.nd rfl (Or.inl rfl) (snd_add (snd_pk (pv 6)) (snd_o (snd_lst (snd_acons (snd_o snd_str) (snd_acons (snd_o snd_str) (snd_acons (snd_o snd_str) (snd_acons (snd_o snd_str) (snd_acons (snd_o snd_str) snd_anil)))))))))
    (sns_cons (sns_set (i := 6) sc_law.nd rfl (Or.inl rfl) (snd_add (snd_pk (pv 6)) (snd_o (snd_lst (snd_acons (snd_o snd_str) (snd_acons (snd_o (snd_add (snd_o (snd_repS (snd_o snd_str) (snd_o snd_int))) (snd_o snd_str))) (snd_acons (snd_o (snd_add (snd_o snd_str) (snd_o (snd_repS (snd_o snd_str) (snd_o snd_int))))) (snd_acons (snd_o snd_str) (snd_acons (snd_o snd_str) snd_anil)))))))))
    (sns_cons (sns_set (i := 6) sc_law.nd rfl (Or.inl rfl) (snd_add (snd_pk (pv 6)) (snd_o (snd_lst (snd_acons (snd_o snd_non) (snd_acons (snd_o snd_int) (snd_acons (snd_o snd_bl) (snd_acons (snd_o (snd_tup (snd_acons (snd_o snd_int) (snd_acons (snd_o snd_int) snd_anil)))) (snd_acons (snd_o (snd_lst (snd_acons (snd_o snd_str) snd_anil))) (snd_acons (snd_o snd_str) (snd_acons (snd_o snd_str) (snd_acons (snd_o snd_str) snd_anil))))))))))))
    (sns_cons (sns_for (passes_of rfl) rfl (sni_list (snd_o (snd_var (x := "") (pv 6)))) (sng_name (i := 7) sc_law.nd rfl (Or.inl rfl))
    (sns_one (sns_for (passes_of rfl) rfl (sni_tup (snd_o (snd_tup (snd_acons (snd_o snd_int) (snd_acons (snd_o snd_int) snd_anil))))) (sng_name (i := 5) sc_law.nd rfl (Or.inl rfl))
    (sns_one (sns_if (snb_cmp (op_neD hr.units) ok_ne (snd_o (snd_call G_law_asked (hr.mono (by decide)) rfl m_law_asked k_law_asked b_law_asked (L2N.takes_of rfl rfl rfl rfl) (snd_acons (snd_pk (pv 5)) (snd_acons (snd_pk (pv 7)) snd_anil)))) (snd_o (snd_tup (snd_acons (snd_o snd_str) (snd_acons (snd_o snd_str) snd_anil)))) (nomark _))
    (sns_one (sns_ret snd_bl))
    sns_nil)))))
    (sns_one (sns_ret (snd_and (snd_cmp (op_eqD hr.units) ok_eq (snd_o (snd_call G_law_asked (hr.mono (by decide)) rfl m_law_asked k_law_asked b_law_asked (L2N.takes_of rfl rfl rfl rfl) (snd_acons (snd_o snd_int) (snd_acons (snd_o (snd_mp PySem.F.plainAttrs_str PySem.F.slot_str_join PySem.F.type_str_join mt_join ck_str ok_join (snd_o snd_str) (snd_acons (snd_o (snd_rep (snd_o (snd_lst (snd_acons (snd_o snd_str) snd_anil))) (snd_o snd_int))) snd_anil))) snd_anil)))) (snd_o (snd_tup (snd_acons (snd_o snd_str) (snd_acons (snd_o snd_str) snd_anil)))) (nomark _)) (snd_one (snd_cmp (op_eqD hr.units) ok_eq (snd_o (snd_call G_law_asked (hr.mono (by decide)) rfl m_law_asked k_law_asked b_law_asked (L2N.takes_of rfl rfl rfl rfl) (snd_acons (snd_o snd_int) (snd_acons (snd_o snd_str) snd_anil)))) (snd_o (snd_tup (snd_acons (snd_o snd_int) (snd_acons (snd_o snd_int) snd_anil)))) (nomark _)))))))))))))⟩
    case lc1 =>
      refine' sns_setLc2 (i := 3) (own := [("_law_k", 8)]) rfl sc_law.nd rfl rfl (sw_true rfl rfl rfl (by decide +kernel)) ?qi1 (blkOk_by (own := [("_law_k", 8)]) (N := N_law) (sc := defScope st_law) (by decide +kernel)) ?qg1 ?qt1 ?qe1 s ?qw1 ?qr1 ?qs1
      case qi1 =>
        refine' (sni_r1 rfl z_range (snd_acons (snd_o (snd_add (snd_o snd_int) (snd_o (snd_mod (snd_pk (pv 2)) (snd_o snd_int))))) snd_anil))
      case qg1 =>
        refine' (fun _ _ _ _ _ => (sng_name (i := 8) sc_law.nd rfl (Or.inl rfl)))
      case qt1 =>
        refine' (fun _ _ _ _ _ => pts_no)
      case qe1 =>
        refine' (fun _ _ _ _ _ => (snd_call G_law_drawn_place (hr.mono (by decide)) rfl m_law_drawn_place k_law_drawn_place b_law_drawn_place takes0N (snd_acons (snd_o (snd_add (snd_o (snd_div (snd_pk (pv 2)) (snd_o (snd_ix (snd_o (snd_lst (snd_acons (snd_o snd_int) (snd_acons (snd_o snd_int) (snd_acons (snd_o snd_int) snd_anil))))) (snd_o (snd_mod (snd_pk (pv 8)) (snd_o snd_int))) (fun _ _ => rfl))))) (snd_o (snd_mul (snd_pk (pv 8)) (snd_o snd_int))))) snd_anil)))
      case qw1 => decide
      case qr1 => intros; rfl
      case qs1 => intros; rfl
    case lc2 =>
      refine' snd_lc2 (own := [("_law_top", 9), ("_law_bottom", 10)]) rfl sc_law.nd ?qi2 (blkOk_by (own := [("_law_top", 9), ("_law_bottom", 10)]) (N := N_law) (sc := defScope st_law) (by decide +kernel)) ?qg2 ?qt2 ?qe2 s ?qw2 ?qr2 ?qs2
      case qi2 =>
        refine' (sni_list (snd_o (snd_var (x := "") (pv 3))))
      case qg2 =>
        refine' (fun _ _ _ _ _ => (sng_tupK (K := K) (len := 2) rfl rfl (sngs_cons (sng_name (i := 9) sc_law.nd rfl (Or.inl rfl)) (sngs_cons (sng_name (i := 10) sc_law.nd rfl (Or.inl rfl)) sngs_nil))))
      case qt2 =>
        refine' (fun _ _ _ _ _ => pts_no)
      case qe2 =>
        refine' (fun _ _ _ _ _ => (snd_add (snd_o (snd_add (snd_o (snd_bt call_str_int ok_str rfl z_str PyProof.Rows.boot_str (snd_acons (snd_pk (pv 9)) snd_anil))) (snd_o snd_str))) (snd_o (snd_bt call_str_int ok_str rfl z_str PyProof.Rows.boot_str (snd_acons (snd_pk (pv 10)) snd_anil)))))
      case qw2 => decide
      case qr2 => intros; rfl
      case qs2 => intros; rfl
  case hio => exact fun i h => nomatch h
end
end LawW

open PySem PySem.W PyProof.Rows
set_option maxRecDepth 100000 in
set_option maxHeartbeats 0 in
theorem PySem.Challenge.cw_fractionroads_k85_no_texts_holds : PySem.Challenge.rw_fractionroads_k85_no_texts.Holds := by
  w_on; o_law; k_head; (case hw => w_witness2)
  k_fill
  refine L2.walk_of (l := PySem.Challenge.rw_fractionroads_k85_no_texts) (n := 63) (k := 6) (x := "_law_script") (CX := fun w => L2N.CX PySem.Challenge.rw_fractionroads_k85_no_texts.prog w) (sp := fun w => Sim.spLaw _) rfl (by decide) rfl ⟨rfl, by decide, by decide⟩ (fun w h Y => PySem.W.kIn_of Y) ?F (fun _ _ a ns hl _ hS => ⟨a, ns, rfl, hS, hl, (fun _ h => absurd h List.not_mem_nil), fun _ => rfl⟩) (fun _ _ _ _ _ h => Sim.cx_no h)
  case F =>
    intro w mg fa h KX G hmg
    refine' Sim.with_def (x := "common") (st := LawW.st_common) (ps := ["one", "other"]) KX G ?a_1 ?l_1 ?c_1 ?k_1 (fun _ _ _ _ _ _ us hl => match us, hl with | [_, _], _ => rfl) ?n_1
    (case a_1 => k_is); (case l_1 => k_is); (case c_1 => k_is); (case k_1 => k_is)
    intro D_common
    refine' Sim.with_def (x := "read_number") (st := LawW.st_read_number) (ps := ["word", "most"]) KX G ?a_2 ?l_2 ?c_2 ?k_2 (fun _ _ _ _ _ _ us hl => match us, hl with | [_, _], _ => rfl) ?n_2
    (case a_2 => k_is); (case l_2 => k_is); (case c_2 => k_is); (case k_2 => k_is)
    intro D_read_number
    refine' Sim.with_def (x := "read_place") (st := LawW.st_read_place) (ps := ["text"]) KX G ?a_3 ?l_3 ?c_3 ?k_3 (fun _ _ _ _ _ _ us hl => match us, hl with | [_], _ => rfl) ?n_3
    (case a_3 => k_is); (case l_3 => k_is); (case c_3 => k_is); (case k_3 => k_is)
    intro D_read_place
    refine' Sim.with_def (x := "read_walk") (st := LawW.st_read_walk) (ps := ["text"]) KX G ?a_4 ?l_4 ?c_4 ?k_4 (fun _ _ _ _ _ _ us hl => match us, hl with | [_], _ => rfl) ?n_4
    (case a_4 => k_is); (case l_4 => k_is); (case c_4 => k_is); (case k_4 => k_is)
    intro D_read_walk
    refine' Sim.with_def (x := "_law_cell_at") (st := LawW.st_law_cell_at) (ps := ["_law_script", "_law_k"]) KX G ?a_5 ?l_5 ?c_5 ?k_5 (fun _ _ _ _ _ _ us hl => match us, hl with | [_, _], _ => rfl) ?n_5
    (case a_5 => k_is); (case l_5 => k_is); (case c_5 => k_is); (case k_5 => k_is)
    intro D_law_cell_at
    refine' Sim.with_def (x := "_law_number") (st := LawW.st_law_number) (ps := ["_law_script", "_law_k"]) KX G ?a_6 ?l_6 ?c_6 ?k_6 (fun _ _ _ _ _ _ us hl => match us, hl with | [_, _], _ => rfl) ?n_6
    (case a_6 => k_is); (case l_6 => k_is); (case c_6 => k_is); (case k_6 => k_is)
    intro D_law_number
    refine' Sim.with_def (x := "_law_common") (st := LawW.st_law_common) (ps := ["_law_one", "_law_other"]) KX G ?a_7 ?l_7 ?c_7 ?k_7 (fun _ _ _ _ _ _ us hl => match us, hl with | [_, _], _ => rfl) ?n_7
    (case a_7 => k_is); (case l_7 => k_is); (case c_7 => k_is); (case k_7 => k_is)
    intro D_law_common
    refine' Sim.with_def (x := "_law_kind") (st := LawW.st_law_kind) (ps := ["_law_e"]) KX G ?a_8 ?l_8 ?c_8 ?k_8 (fun _ _ _ _ _ _ us hl => match us, hl with | [_], _ => rfl) ?n_8
    (case a_8 => k_is); (case l_8 => k_is); (case c_8 => k_is); (case k_8 => k_is)
    intro D_law_kind
    refine' Sim.with_def (x := "_law_place") (st := LawW.st_law_place) (ps := ["_law_top", "_law_bottom"]) KX G ?a_9 ?l_9 ?c_9 ?k_9 (fun _ _ _ _ _ _ us hl => match us, hl with | [_, _], _ => rfl) ?n_9
    (case a_9 => k_is); (case l_9 => k_is); (case c_9 => k_is); (case k_9 => k_is)
    intro D_law_place
    refine' Sim.with_def (x := "_law_drawn_place") (st := LawW.st_law_drawn_place) (ps := ["_law_number_here"]) KX G ?a_10 ?l_10 ?c_10 ?k_10 (fun _ _ _ _ _ _ us hl => match us, hl with | [_], _ => rfl) ?n_10
    (case a_10 => k_is); (case l_10 => k_is); (case c_10 => k_is); (case k_10 => k_is)
    intro D_law_drawn_place
    refine' Sim.with_def (x := "_law_number_due") (st := LawW.st_law_number_due) (ps := ["_law_word"]) KX G ?a_11 ?l_11 ?c_11 ?k_11 (fun _ _ _ _ _ _ us hl => match us, hl with | [_], _ => rfl) ?n_11
    (case a_11 => k_is); (case l_11 => k_is); (case c_11 => k_is); (case k_11 => k_is)
    intro D_law_number_due
    refine' Sim.with_def (x := "_law_place_due") (st := LawW.st_law_place_due) (ps := ["_law_text"]) KX G ?a_12 ?l_12 ?c_12 ?k_12 (fun _ _ _ _ _ _ us hl => match us, hl with | [_], _ => rfl) ?n_12
    (case a_12 => k_is); (case l_12 => k_is); (case c_12 => k_is); (case k_12 => k_is)
    intro D_law_place_due
    refine' Sim.with_def (x := "_law_walk_due") (st := LawW.st_law_walk_due) (ps := ["_law_text"]) KX G ?a_13 ?l_13 ?c_13 ?k_13 (fun _ _ _ _ _ _ us hl => match us, hl with | [_], _ => rfl) ?n_13
    (case a_13 => k_is); (case l_13 => k_is); (case c_13 => k_is); (case k_13 => k_is)
    intro D_law_walk_due
    refine' Sim.with_def (x := "_law_asked") (st := LawW.st_law_asked) (ps := ["_law_which", "_law_thing"]) KX G ?a_14 ?l_14 ?c_14 ?k_14 (fun _ _ _ _ _ _ us hl => match us, hl with | [_, _], _ => rfl) ?n_14
    (case a_14 => k_is); (case l_14 => k_is); (case c_14 => k_is); (case k_14 => k_is)
    intro D_law_asked
    refine' Sim.with_def (x := "_law_changed") (st := LawW.st_law_changed) (ps := ["_law_text", "_law_number_here"]) KX G ?a_15 ?l_15 ?c_15 ?k_15 (fun _ _ _ _ _ _ us hl => match us, hl with | [_, _], _ => rfl) ?n_15
    (case a_15 => k_is); (case l_15 => k_is); (case c_15 => k_is); (case k_15 => k_is)
    intro D_law_changed
    refine' Sim.with_def (x := "_law_right") (st := LawW.st_law_right) (ps := ["_law_which", "_law_text"]) KX G ?a_16 ?l_16 ?c_16 ?k_16 (fun _ _ _ _ _ _ us hl => match us, hl with | [_, _], _ => rfl) ?n_16
    (case a_16 => k_is); (case l_16 => k_is); (case c_16 => k_is); (case k_16 => k_is)
    intro D_law_right
    refine' Sim.with_str (x := "FIGURES") (i := "0123456789") KX G ?a_17 ?n_17
    (case a_17 => k_is)
    intro c_FIGURES
    refine' Sim.with_int (x := "MOST_FIGURES") (i := 30) KX G ?a_18 ?n_18
    (case a_18 => k_is)
    intro c_MOST_FIGURES
    refine' Sim.with_int (x := "MOST_PLACES") (i := 12) KX G ?a_19 ?n_19
    (case a_19 => k_is)
    intro c_MOST_PLACES
    refine' Sim.with_gref (x := "RoadError") KX G ?xa_RoadError ?xn_RoadError
    (case xa_RoadError => k_is)
    intro gr_RoadError
    refine' Sim.with_gref (x := "NoPlace") KX G ?xa_NoPlace ?xn_NoPlace
    (case xa_NoPlace => k_is)
    intro gr_NoPlace
    refine' Sim.with_gref (x := "NoLevel") KX G ?xa_NoLevel ?xn_NoLevel
    (case xa_NoLevel => k_is)
    intro gr_NoLevel
    refine' Sim.with_gref (x := "NoSymbol") KX G ?xa_NoSymbol ?xn_NoSymbol
    (case xa_NoSymbol => k_is)
    intro gr_NoSymbol
    refine' Sim.with_gref (x := "NoEnd") KX G ?xa_NoEnd ?xn_NoEnd
    (case xa_NoEnd => k_is)
    intro gr_NoEnd
    refine' Sim.with_gref (x := "Apart") KX G ?xa_Apart ?xn_Apart
    (case xa_Apart => k_is)
    intro gr_Apart
    refine' Sim.with_gref (x := "NoRow") KX G ?xa_NoRow ?xn_NoRow
    (case xa_NoRow => k_is)
    intro gr_NoRow
    refine' Sim.with_gref (x := "NotClosed") KX G ?xa_NotClosed ?xn_NotClosed
    (case xa_NotClosed => k_is)
    intro gr_NotClosed
    refine' Sim.with_gref (x := "NoDeed") KX G ?xa_NoDeed ?xn_NoDeed
    (case xa_NoDeed => k_is)
    intro gr_NoDeed
    refine' Sim.with_gref (x := "NoPart") KX G ?xa_NoPart ?xn_NoPart
    (case xa_NoPart => k_is)
    intro gr_NoPart
    refine' Sim.with_gref (x := "NoForm") KX G ?xa_NoForm ?xn_NoForm
    (case xa_NoForm => k_is)
    intro gr_NoForm
    refine' Sim.with_exc (x := "NoText") KX G ?xa_NoText ?xb_NoText ?xc_NoText ?xd_NoText ?xe_NoText ?xf_NoText ?xg_NoText ?xh_NoText ?xi_NoText ?xj_NoText ?xk_NoText ?xl_NoText ?xn_NoText
    (case xa_NoText => k_is); (case xb_NoText => k_exc); (case xc_NoText => k_is); (case xd_NoText => k_is); (case xe_NoText => k_is); (case xf_NoText => k_is); (case xg_NoText => k_is); (case xh_NoText => k_is); (case xi_NoText => k_is); (case xj_NoText => k_is); (case xk_NoText => k_is); (case xl_NoText => k_is)
    intro I_NoText
    have gr_NoText := I_NoText.mgC
    refine' Sim.with_gref (x := "NoName") KX G ?xa_NoName ?xn_NoName
    (case xa_NoName => k_is)
    intro gr_NoName
    refine' Sim.with_kit I_NoText gr_Apart false ?k1_NoText_Apart ?k2_NoText_Apart ?k3_NoText_Apart (fun h => by first | rfl | exact absurd h (by decide)) ?kn_NoText_Apart
    (case k1_NoText_Apart => k_is); (case k2_NoText_Apart => k_is); (case k3_NoText_Apart => k_is)
    intro kk_NoText_Apart
    refine' Sim.with_kit I_NoText gr_NoDeed false ?k1_NoText_NoDeed ?k2_NoText_NoDeed ?k3_NoText_NoDeed (fun h => by first | rfl | exact absurd h (by decide)) ?kn_NoText_NoDeed
    (case k1_NoText_NoDeed => k_is); (case k2_NoText_NoDeed => k_is); (case k3_NoText_NoDeed => k_is)
    intro kk_NoText_NoDeed
    refine' Sim.with_kit I_NoText gr_NoEnd false ?k1_NoText_NoEnd ?k2_NoText_NoEnd ?k3_NoText_NoEnd (fun h => by first | rfl | exact absurd h (by decide)) ?kn_NoText_NoEnd
    (case k1_NoText_NoEnd => k_is); (case k2_NoText_NoEnd => k_is); (case k3_NoText_NoEnd => k_is)
    intro kk_NoText_NoEnd
    refine' Sim.with_kit I_NoText gr_NoForm false ?k1_NoText_NoForm ?k2_NoText_NoForm ?k3_NoText_NoForm (fun h => by first | rfl | exact absurd h (by decide)) ?kn_NoText_NoForm
    (case k1_NoText_NoForm => k_is); (case k2_NoText_NoForm => k_is); (case k3_NoText_NoForm => k_is)
    intro kk_NoText_NoForm
    refine' Sim.with_kit I_NoText gr_NoLevel false ?k1_NoText_NoLevel ?k2_NoText_NoLevel ?k3_NoText_NoLevel (fun h => by first | rfl | exact absurd h (by decide)) ?kn_NoText_NoLevel
    (case k1_NoText_NoLevel => k_is); (case k2_NoText_NoLevel => k_is); (case k3_NoText_NoLevel => k_is)
    intro kk_NoText_NoLevel
    refine' Sim.with_kit I_NoText gr_NoName false ?k1_NoText_NoName ?k2_NoText_NoName ?k3_NoText_NoName (fun h => by first | rfl | exact absurd h (by decide)) ?kn_NoText_NoName
    (case k1_NoText_NoName => k_is); (case k2_NoText_NoName => k_is); (case k3_NoText_NoName => k_is)
    intro kk_NoText_NoName
    refine' Sim.with_kit I_NoText gr_NoPart false ?k1_NoText_NoPart ?k2_NoText_NoPart ?k3_NoText_NoPart (fun h => by first | rfl | exact absurd h (by decide)) ?kn_NoText_NoPart
    (case k1_NoText_NoPart => k_is); (case k2_NoText_NoPart => k_is); (case k3_NoText_NoPart => k_is)
    intro kk_NoText_NoPart
    refine' Sim.with_kit I_NoText gr_NoPlace false ?k1_NoText_NoPlace ?k2_NoText_NoPlace ?k3_NoText_NoPlace (fun h => by first | rfl | exact absurd h (by decide)) ?kn_NoText_NoPlace
    (case k1_NoText_NoPlace => k_is); (case k2_NoText_NoPlace => k_is); (case k3_NoText_NoPlace => k_is)
    intro kk_NoText_NoPlace
    refine' Sim.with_kit I_NoText gr_NoRow false ?k1_NoText_NoRow ?k2_NoText_NoRow ?k3_NoText_NoRow (fun h => by first | rfl | exact absurd h (by decide)) ?kn_NoText_NoRow
    (case k1_NoText_NoRow => k_is); (case k2_NoText_NoRow => k_is); (case k3_NoText_NoRow => k_is)
    intro kk_NoText_NoRow
    refine' Sim.with_kit I_NoText gr_NoSymbol false ?k1_NoText_NoSymbol ?k2_NoText_NoSymbol ?k3_NoText_NoSymbol (fun h => by first | rfl | exact absurd h (by decide)) ?kn_NoText_NoSymbol
    (case k1_NoText_NoSymbol => k_is); (case k2_NoText_NoSymbol => k_is); (case k3_NoText_NoSymbol => k_is)
    intro kk_NoText_NoSymbol
    refine' Sim.with_kit I_NoText gr_NoText true ?k1_NoText_NoText ?k2_NoText_NoText ?k3_NoText_NoText (fun h => by first | rfl | exact absurd h (by decide)) ?kn_NoText_NoText
    (case k1_NoText_NoText => k_is); (case k2_NoText_NoText => k_is); (case k3_NoText_NoText => k_is)
    intro kk_NoText_NoText
    refine' Sim.with_kit I_NoText gr_NotClosed false ?k1_NoText_NotClosed ?k2_NoText_NotClosed ?k3_NoText_NotClosed (fun h => by first | rfl | exact absurd h (by decide)) ?kn_NoText_NotClosed
    (case k1_NoText_NotClosed => k_is); (case k2_NoText_NotClosed => k_is); (case k3_NoText_NotClosed => k_is)
    intro kk_NoText_NotClosed
    refine' Sim.with_kitT I_NoText "ValueError" true (by decide +kernel) ?k3_NoText_ValueError ?kn_NoText_ValueError
    (case k3_NoText_ValueError => k_is)
    intro kk_NoText_ValueError
    refine' Sim.with_exm I_NoText gr_RoadError ?e1_NoText_RoadError ?e2_NoText_RoadError ?e3_NoText_RoadError ?e4_NoText_RoadError ?en_NoText_RoadError
    (case e1_NoText_RoadError => k_is); (case e2_NoText_RoadError => k_is); (case e3_NoText_RoadError => k_is); (case e4_NoText_RoadError => k_is)
    intro ex_NoText_RoadError
    refine' Sim.with_no (x := "ValueError") KX G ?a_47 ?n_47
    (case a_47 => k_is)
    intro z_ValueError
    refine' Sim.with_no (x := "abs") KX G ?a_48 ?n_48
    (case a_48 => k_is)
    intro z_abs
    refine' Sim.with_no (x := "int") KX G ?a_49 ?n_49
    (case a_49 => k_is)
    intro z_int
    refine' Sim.with_no (x := "isinstance") KX G ?a_50 ?n_50
    (case a_50 => k_is)
    intro z_isinstance
    refine' Sim.with_no (x := "len") KX G ?a_51 ?n_51
    (case a_51 => k_is)
    intro z_len
    refine' Sim.with_no (x := "max") KX G ?a_52 ?n_52
    (case a_52 => k_is)
    intro z_max
    refine' Sim.with_no (x := "min") KX G ?a_53 ?n_53
    (case a_53 => k_is)
    intro z_min
    refine' Sim.with_no (x := "range") KX G ?a_54 ?n_54
    (case a_54 => k_is)
    intro z_range
    refine' Sim.with_no (x := "str") KX G ?a_55 ?n_55
    (case a_55 => k_is)
    intro z_str
    refine' Sim.law_mk (st := LawW.st_law) KX G hmg ?a0 ?l0 ?c0 ?k0 (fun _ _ _ _ _ _ us hl => match us, hl with | [_], _ => rfl) (fun _ _ _ _ _ _ _ _ => .of_eq rfl) (fun base hb D0 lk => ?H)
    (case a0 => k_is); (case l0 => k_is); (case c0 => k_is); (case k0 => k_is)
    case H =>
      have H_common := LawW.ok_common (P := PySem.Challenge.rw_fractionroads_k85_no_texts.prog) (w := w) (mg := mg) (base := base) (cv := fun c => .ref (if c = 11 then I_NoText.adr else 0)) D_common z_abs
      have H_read_number := LawW.ok_read_number (P := PySem.Challenge.rw_fractionroads_k85_no_texts.prog) (w := w) (mg := mg) (base := base) (cv := fun c => .ref (if c = 11 then I_NoText.adr else 0)) D_read_number c_FIGURES ⟨_, I_NoText, rfl⟩ z_int z_len
      have H_read_place := LawW.ok_read_place (P := PySem.Challenge.rw_fractionroads_k85_no_texts.prog) (w := w) (mg := mg) (base := base) (cv := fun c => .ref (if c = 11 then I_NoText.adr else 0)) D_read_place H_read_number H_common c_MOST_FIGURES ⟨_, I_NoText, rfl⟩ z_isinstance z_str
      have H_read_walk := LawW.ok_read_walk (P := PySem.Challenge.rw_fractionroads_k85_no_texts.prog) (w := w) (mg := mg) (base := base) (cv := fun c => .ref (if c = 11 then I_NoText.adr else 0)) D_read_walk H_read_place c_MOST_PLACES ⟨_, I_NoText, rfl⟩ z_isinstance z_len z_str
      have H_law_cell_at := LawW.ok_law_cell_at (P := PySem.Challenge.rw_fractionroads_k85_no_texts.prog) (w := w) (mg := mg) (base := base) (cv := fun c => .ref (if c = 11 then I_NoText.adr else 0)) D_law_cell_at z_len
      have H_law_number := LawW.ok_law_number (P := PySem.Challenge.rw_fractionroads_k85_no_texts.prog) (w := w) (mg := mg) (base := base) (cv := fun c => .ref (if c = 11 then I_NoText.adr else 0)) D_law_number H_law_cell_at
      have H_law_common := LawW.ok_law_common (P := PySem.Challenge.rw_fractionroads_k85_no_texts.prog) (w := w) (mg := mg) (base := base) (cv := fun c => .ref (if c = 11 then I_NoText.adr else 0)) D_law_common z_abs
      have H_law_kind := LawW.ok_law_kind (P := PySem.Challenge.rw_fractionroads_k85_no_texts.prog) (w := w) (mg := mg) (base := base) (dv := fun c => (if c = 11 then I_NoText.adr else 0)) (cv := fun c => .ref (if c = 11 then I_NoText.adr else 0)) D_law_kind (fun _ => rfl) (Sim.all_cons I_NoText.ec Sim.all_nil) ⟨_, gr_NoEnd, (Sim.all_cons kk_NoText_NoEnd Sim.all_nil)⟩ ⟨_, gr_NoSymbol, (Sim.all_cons kk_NoText_NoSymbol Sim.all_nil)⟩ ⟨_, gr_NoLevel, (Sim.all_cons kk_NoText_NoLevel Sim.all_nil)⟩ ⟨_, gr_NoPlace, (Sim.all_cons kk_NoText_NoPlace Sim.all_nil)⟩ ⟨_, gr_NoDeed, (Sim.all_cons kk_NoText_NoDeed Sim.all_nil)⟩ ⟨_, gr_NotClosed, (Sim.all_cons kk_NoText_NotClosed Sim.all_nil)⟩ ⟨_, gr_NoRow, (Sim.all_cons kk_NoText_NoRow Sim.all_nil)⟩ ⟨_, gr_Apart, (Sim.all_cons kk_NoText_Apart Sim.all_nil)⟩ ⟨_, gr_NoName, (Sim.all_cons kk_NoText_NoName Sim.all_nil)⟩ ⟨_, gr_NoText, (Sim.all_cons kk_NoText_NoText Sim.all_nil)⟩ ⟨_, gr_NoForm, (Sim.all_cons kk_NoText_NoForm Sim.all_nil)⟩ ⟨_, gr_NoPart, (Sim.all_cons kk_NoText_NoPart Sim.all_nil)⟩ (Sim.all_cons kk_NoText_ValueError Sim.all_nil) z_ValueError z_isinstance
      have H_law_place := LawW.ok_law_place (P := PySem.Challenge.rw_fractionroads_k85_no_texts.prog) (w := w) (mg := mg) (base := base) (cv := fun c => .ref (if c = 11 then I_NoText.adr else 0)) D_law_place H_law_common
      have H_law_drawn_place := LawW.ok_law_drawn_place (P := PySem.Challenge.rw_fractionroads_k85_no_texts.prog) (w := w) (mg := mg) (base := base) (cv := fun c => .ref (if c = 11 then I_NoText.adr else 0)) D_law_drawn_place H_law_place
      have H_law_number_due := LawW.ok_law_number_due (P := PySem.Challenge.rw_fractionroads_k85_no_texts.prog) (w := w) (mg := mg) (base := base) (cv := fun c => .ref (if c = 11 then I_NoText.adr else 0)) D_law_number_due z_int z_len z_str
      have H_law_place_due := LawW.ok_law_place_due (P := PySem.Challenge.rw_fractionroads_k85_no_texts.prog) (w := w) (mg := mg) (base := base) (cv := fun c => .ref (if c = 11 then I_NoText.adr else 0)) D_law_place_due H_law_number_due H_law_common z_len
      have H_law_walk_due := LawW.ok_law_walk_due (P := PySem.Challenge.rw_fractionroads_k85_no_texts.prog) (w := w) (mg := mg) (base := base) (cv := fun c => .ref (if c = 11 then I_NoText.adr else 0)) D_law_walk_due H_law_place_due z_len
      have H_law_asked := LawW.ok_law_asked (P := PySem.Challenge.rw_fractionroads_k85_no_texts.prog) (w := w) (mg := mg) (base := base) (cv := fun c => .ref (if c = 11 then I_NoText.adr else 0)) D_law_asked H_read_place H_read_walk ⟨_, gr_RoadError, (Sim.all_cons ex_NoText_RoadError Sim.all_nil)⟩ H_law_kind
      have H_law_changed := LawW.ok_law_changed (P := PySem.Challenge.rw_fractionroads_k85_no_texts.prog) (w := w) (mg := mg) (base := base) (cv := fun c => .ref (if c = 11 then I_NoText.adr else 0)) D_law_changed z_len
      have H_law_right := LawW.ok_law_right (P := PySem.Challenge.rw_fractionroads_k85_no_texts.prog) (w := w) (mg := mg) (base := base) (cv := fun c => .ref (if c = 11 then I_NoText.adr else 0)) D_law_right H_law_walk_due H_law_place_due H_law_asked
      have H_law := LawW.ok_law (P := PySem.Challenge.rw_fractionroads_k85_no_texts.prog) (w := w) (mg := mg) (base := base) (cv := fun c => .ref (if c = 11 then I_NoText.adr else 0)) D0 H_law_number H_law_drawn_place H_law_right H_law_changed H_law_asked z_len z_max z_min z_range z_str
      exact Sim.has_law H_law hmg lk LawW.plain_law

