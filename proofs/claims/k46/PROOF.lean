import PyProof.Rows.All
import Wide.All
import OpenK.AllK
import Wide.FinOn
import HandS.ForMost
import HandS.More
import HandS.Defaults
import HandS.Style
import HandS.IsInst
import HandS.SetFor
import HandS.Deep
import HandS.TupAny
import HandS.Wide
import PySem.Challenge.RW_heldpasts_k46_whole_two_in_a_row
import KE.SortData
import HandS.SetTxt0
import HandS.TupSets
import PyProof.ReprRoads
import PyProof.ReprBulk
import HandS.Strs
import KE.KStateDown
import Lean
import HandS.Ends
import HandS.Words
import HandS.WordsExc
import HandS.Head0
import HandS.Head1
import HandS.Head2
import HandS.HeadEnd
import HandS.HeadHook1
import HandS.HeadHook2
set_option Elab.async false
set_option linter.all false
set_option maxRecDepth 100000
set_option maxHeartbeats 4000000
/-! K46A: the text by places, data that tuples hold, nodes, notes. -/
namespace K46
open PySem PySem.Spec PyProof.Rows L2
/-! ### the text -/
def topS (i : Nat) : Stmt := PySem.Challenge.pw_heldpasts_k46_whole_two_in_a_row.main.body.getD i (.Pass ⟨0, 0, 0, 0⟩)
abbrev FnP (K : PySem.W.Frag) (x : Str) (st : Stmt) (f : Addr) (fd : FuncData) : Prop := FunD K x x (defArgs st) (defBody st) (defScope st) [] [] f fd
abbrev sHas : Stmt := topS 1
abbrev sRead : Stmt := topS 2
abbrev sFW : Stmt := topS 3
abbrev sFR : Stmt := topS 4
abbrev sLeads : Stmt := topS 5
abbrev sBehind : Stmt := topS 6
abbrev sRing : Stmt := topS 7
abbrev sOrder : Stmt := topS 8
abbrev sPivots : Stmt := topS 9
abbrev sWell : Stmt := topS 11
abbrev sDip : Stmt := topS 12
abbrev sSame : Stmt := topS 13
abbrev sWord : Stmt := topS 14
abbrev sPool : Stmt := topS 15
abbrev sLHas : Stmt := topS 16
abbrev sGiven : Stmt := topS 17
abbrev sNote : Stmt := topS 18
abbrev sNumbers : Stmt := topS 19
abbrev sFree : Stmt := topS 20
abbrev sCrossed : Stmt := topS 22
abbrev sMisses : Stmt := topS 23
abbrev sLPiv : Stmt := topS 24
abbrev sLaw : Stmt := topS 25
/-- a def that lets nothing out, by its body -/
theorem okN {P : Program} {w : World} {K : PySem.W.Frag} {mg : Str → Option Value} {base : Heap} {x : Str} {st : Stmt} {f : Addr} {fd : FuncData} {N ps : List Str} {k : Nat} {sp : Sp} (F : FnP K x st f fd) (S : FnScope N ps (defScope st))
    (len : ∀ vs H Q E, sp vs H Q E → vs.length = ps.length)
    (body : ∀ (cdv : Value) (A : Around) (outer : List Env) (s : Shared) (H : Hp) (vs : List V) (Q : VK) (E : XK), Room k (A.deeper (envOfC x (defScope st) s.heap.objs.size f cdv)) → sp vs H Q E →
      ∃ t, PSs (cxOf CX0 P w K mg base N x (defScope st) f cdv A outer s H E).nox (defBody st) t ∧ t { nx := fun _ H' => Q .non H', rt := Q } (start N vs) H) : FnOk P w K mg base CX0 (k + 1) f fd ps sp :=
  F.ok S len fun cdv A outer s H vs Q E hr h => by
    obtain ⟨t, h1, h2⟩ := body cdv A outer s H vs Q E hr h
    exact ⟨t, h1.nox, h2⟩
/-! ### data that tuples alone hold -/
mutual
inductive DT (H : Hp) : V → PyData → Prop
  | non : DT H .non .none
  | int (i : Int) : DT H (.int i) (.int i)
  | str (x : Str) : DT H (.str x) (.str x)
  | tup {a : Addr} {xs : List V} {ds : List PyData} : H a = some (.tup xs) → DTs H xs ds → DT H (.ref a) (.tuple ds)
inductive DTs (H : Hp) : List V → List PyData → Prop
  | nil : DTs H [] []
  | cons {v : V} {vs : List V} {d : PyData} {ds : List PyData} : DT H v d → DTs H vs ds → DTs H (v :: vs) (d :: ds)
end
/-- the tuples stay -/
def Tups (H H' : Hp) : Prop := ∀ b xs, H b = some (.tup xs) → H' b = some (.tup xs)
mutual
theorem DT.mono {H H' : Hp} (k : Tups H H') : ∀ {v : V} {d : PyData}, DT H v d → DT H' v d
  | _, _, .non => .non
  | _, _, .int i => .int i
  | _, _, .str x => .str x
  | _, _, .tup h t => .tup (k _ _ h) (DTs.mono k t)
theorem DTs.mono {H H' : Hp} (k : Tups H H') : ∀ {vs : List V} {ds : List PyData}, DTs H vs ds → DTs H' vs ds
  | _, _, .nil => .nil
  | _, _, .cons a t => .cons (DT.mono k a) (DTs.mono k t)
end
mutual
theorem DT.dp {K : PySem.W.Frag} {H : Hp} : ∀ {v : V} {d : PyData}, DT H v d → Dp K H v d
  | _, _, .non => .non
  | _, _, .int i => .int i
  | _, _, .str x => .str x
  | _, _, .tup h t => .tup (.inl (.inl h)) (DTs.dp t)
theorem DTs.dp {K : PySem.W.Frag} {H : Hp} : ∀ {vs : List V} {ds : List PyData}, DTs H vs ds → DpAll K H vs ds
  | _, _, .nil => .nil
  | _, _, .cons a t => .cons (DT.dp a) (DTs.dp t)
end
theorem DT.tup_inv {H : Hp} {v : V} {ds : List PyData} (h : DT H v (.tuple ds)) : ∃ a xs, v = .ref a ∧ H a = some (.tup xs) ∧ DTs H xs ds := by
  cases h with
  | tup e t => exact ⟨_, _, rfl, e, t⟩
theorem DT.str_inv {H : Hp} {v : V} {x : Str} (h : DT H v (.str x)) : v = .str x := by
  cases h
  rfl
theorem DT.int_inv {H : Hp} {v : V} {i : Int} (h : DT H v (.int i)) : v = .int i := by
  cases h
  rfl
theorem DT.non_inv {H : Hp} {v : V} (h : DT H v .none) : v = .non := by
  cases h
  rfl
theorem DTs.cons_inv {H : Hp} {vs : List V} {d : PyData} {ds : List PyData} (h : DTs H vs (d :: ds)) : ∃ v r, vs = v :: r ∧ DT H v d ∧ DTs H r ds := by
  cases h with
  | cons a t => exact ⟨_, _, rfl, a, t⟩
theorem DTs.nil_inv {H : Hp} {vs : List V} (h : DTs H vs []) : vs = [] := by
  cases h
  rfl
theorem DTs.length {H : Hp} : ∀ {vs : List V} {ds : List PyData}, DTs H vs ds → vs.length = ds.length
  | _, _, .nil => rfl
  | _, _, .cons _ t => congrArg Nat.succ (DTs.length t)
theorem DTs.get {H : Hp} : ∀ {vs : List V} {ds : List PyData} {i : Nat} {v : V}, DTs H vs ds → vs[i]? = some v → ∃ d, ds[i]? = some d ∧ DT H v d
  | _, _, i, v, .nil, e => by simp at e
  | _, _, 0, v, .cons a _, e => by
    simp at e
    subst e
    exact ⟨_, rfl, a⟩
  | _, _, i + 1, v, .cons _ t, e => by
    obtain ⟨d, h1, h2⟩ := DTs.get (i := i) (v := v) t (by simpa using e)
    exact ⟨d, by simpa using h1, h2⟩
theorem DTs.append {H : Hp} : ∀ {vs ws : List V} {ds es : List PyData}, DTs H vs ds → DTs H ws es → DTs H (vs ++ ws) (ds ++ es)
  | _, _, _, _, .nil, b => b
  | _, _, _, _, .cons a t, b => .cons a (DTs.append t b)
theorem DTs.strs {H : Hp} : ∀ (xs : List Str), DTs H (xs.map V.str) (xs.map PyData.str)
  | [] => .nil
  | x :: r => .cons (.str x) (DTs.strs r)
theorem DTs.strs_inv {H : Hp} : ∀ {vs : List V} {xs : List Str}, DTs H vs (xs.map PyData.str) → vs = xs.map V.str
  | _, [], h => DTs.nil_inv h
  | _, x :: r, h => by
    obtain ⟨v, vs, rfl, a, t⟩ := DTs.cons_inv h
    rw [DT.str_inv a, DTs.strs_inv t]
    rfl
theorem DTs.ints_inv {H : Hp} : ∀ {vs : List V} {xs : List Int}, DTs H vs (xs.map PyData.int) → vs = xs.map V.int
  | _, [], h => DTs.nil_inv h
  | _, x :: r, h => by
    obtain ⟨v, vs, rfl, a, t⟩ := DTs.cons_inv h
    rw [DT.int_inv a, DTs.ints_inv t]
    rfl
theorem DTs.ints {H : Hp} : ∀ (xs : List Int), DTs H (xs.map V.int) (xs.map PyData.int)
  | [] => .nil
  | x :: r => .cons (.int x) (DTs.ints r)
/-! ### heaps -/
theorem Same.tups {H H' : Hp} (s : Same H H') : Tups H H' := fun b xs h => s b _ h
theorem Tups.trans {H H1 H2 : Hp} (a : Tups H H1) (b : Tups H1 H2) : Tups H H2 := fun c o h => b c o (a c o h)
theorem same_upd {H : Hp} {p : Addr} {o : HO} (h : H p = none) : Same H (upd H p o) := fun b x e => by
  rw [upd_ne (ne_of_none e h)]
  exact e
/-- all but what stands at a is kept -/
def KeepW (a : Addr) (H H' : Hp) : Prop := ∀ c o, H c = some o → c ≠ a → H' c = some o
theorem KeepW.of_same {a : Addr} {H H' : Hp} (s : Same H H') : KeepW a H H' := fun c o h _ => s c o h
theorem KeepW.refl (a : Addr) (H : Hp) : KeepW a H H := fun c o h _ => h
theorem KeepW.trans {a : Addr} {H H1 H2 : Hp} (x : KeepW a H H1) (y : KeepW a H1 H2) : KeepW a H H2 := fun c o h n => y c o (x c o h n) n
theorem KeepW.upd {a : Addr} {H : Hp} {o : HO} : KeepW a H (upd H a o) := fun c o h n => by
  rw [upd_ne n]
  exact h
/-! ### notes and nodes -/
def ltS (a b : Str) : Bool := decide (a.cps.toList < b.cps.toList)
def optD : Option Str → PyData
  | none => .none
  | some x => .str x
inductive Nt where
  | val (k : Str) (v : PyData)
  | ent (lo hi : Option Str) (rows : PyData)
def Nt.d : Nt → PyData
  | .val k v => .tuple [.str "value", .str k, v]
  | .ent lo hi r => .tuple [.str "entries", optD lo, optD hi, r]
def loOk : Option Str → Str → Bool
  | none, _ => true
  | some l, x => !ltS x l
def hiOk : Option Str → Str → Bool
  | none, _ => true
  | some h, x => ltS x h
def Nt.has : Nt → Str → Bool
  | .val k _, x => decide (k = x)
  | .ent lo hi _, x => loOk lo x && hiOk hi x
structure Nd where
  num : Int
  snap : Int
  notes : List Nt
  keys : List Str
def Nd.d (n : Nd) : PyData := .tuple [.int n.num, .int n.snap, .tuple (n.notes.map Nt.d), .tuple (n.keys.map PyData.str)]
/-- a node of few notes and keys stands as v -/
structure NdAt (H : Hp) (v : V) (n : Nd) : Prop where
  d : DT H v n.d
  fewN : n.notes.length ≤ 8
  fewK : n.keys.length ≤ 8
theorem NdAt.mono {H H' : Hp} {v : V} {n : Nd} (k : Tups H H') (h : NdAt H v n) : NdAt H' v n := ⟨h.d.mono k, h.fewN, h.fewK⟩
/-- its parts -/
theorem NdAt.parts {H : Hp} {v : V} {n : Nd} (h : NdAt H v n) : ∃ a an ak ns, v = .ref a ∧ H a = some (.tup [.int n.num, .int n.snap, .ref an, .ref ak]) ∧ H an = some (.tup ns) ∧ DTs H ns (n.notes.map Nt.d) ∧ H ak = some (.tup (n.keys.map V.str)) := by
  obtain ⟨a, xs, rfl, ha, t⟩ := DT.tup_inv h.d
  obtain ⟨v0, r0, rfl, h0, t⟩ := DTs.cons_inv t
  obtain ⟨v1, r1, rfl, h1, t⟩ := DTs.cons_inv t
  obtain ⟨v2, r2, rfl, h2, t⟩ := DTs.cons_inv t
  obtain ⟨v3, r3, rfl, h3, t⟩ := DTs.cons_inv t
  cases DTs.nil_inv t
  cases DT.int_inv h0
  cases DT.int_inv h1
  obtain ⟨an, ns, rfl, hn, tn⟩ := DT.tup_inv h2
  obtain ⟨ak, ks, rfl, hk, tk⟩ := DT.tup_inv h3
  cases DTs.strs_inv tk
  exact ⟨a, an, ak, ns, rfl, ha, hn, tn, hk⟩
/-! ### what the program's functions say -/
def readOf (n m : Nd) : Bool := n.notes.any fun t => m.keys.any fun k => t.has k
def fw (n m : Nd) : Bool := (decide (n.num < m.num) && n.keys.any fun k => decide (k ∈ m.keys)) || (decide (n.num ≤ m.snap) && readOf m n)
def fr (n m : Nd) : Bool := decide (n.snap < m.num) && readOf n m
def leadsB (n m : Nd) : Bool := decide (n.num ≠ m.num) && (fw n m || fr n m)
def missB (n m : Nd) : Bool := decide (n.num ≠ m.num) && decide (n.snap < m.num) && readOf n m
/-- the promise of a test of two nodes -/
def spNN (f : Nd → Nd → Bool) : Sp := fun vs H Q _ => ∃ v1 v2 n m, vs = [v1, v2] ∧ NdAt H v1 n ∧ NdAt H v2 m ∧ ∀ H', Same H H' → Q (.bl (f n m)) H'
/-- the promise of has_key, _law_has -/
def spNK : Sp := fun vs H Q _ => ∃ v t k, vs = [v, .str k] ∧ DT H v (Nt.d t) ∧ Q (.bl (t.has k)) H
end K46

set_option Elab.async false
set_option linter.all false
set_option maxRecDepth 100000
set_option maxHeartbeats 4000000
/-! K46B: has_key, read_of, follows_writes, follows_read, leads; _law_has, _law_misses. -/
namespace K46
open PySem PySem.Spec PyProof.Rows L2
theorem ev_ne : ¬ (V.str ("entries" : Str) = V.str ("value" : Str)) := by decide +kernel
def optV : Option Str → V
  | none => .non
  | some x => .str x
theorem optV_inv {H : Hp} {v : V} {o : Option Str} (h : DT H v (optD o)) : v = optV o := by
  cases o with
  | none => exact DT.non_inv h
  | some x => exact DT.str_inv h
/-- a note's parts -/
theorem Nt.val_parts {H : Hp} {v : V} {k : Str} {d : PyData} (h : DT H v (Nt.d (.val k d))) : ∃ a y, v = .ref a ∧ H a = some (.tup [.str "value", .str k, y]) ∧ DT H y d := by
  obtain ⟨a, xs, rfl, ha, t⟩ := DT.tup_inv h
  obtain ⟨v0, r0, rfl, h0, t⟩ := DTs.cons_inv t
  obtain ⟨v1, r1, rfl, h1, t⟩ := DTs.cons_inv t
  obtain ⟨v2, r2, rfl, h2, t⟩ := DTs.cons_inv t
  cases DTs.nil_inv t
  cases DT.str_inv h0
  cases DT.str_inv h1
  exact ⟨a, v2, rfl, ha, h2⟩
theorem Nt.ent_parts {H : Hp} {v : V} {lo hi : Option Str} {d : PyData} (h : DT H v (Nt.d (.ent lo hi d))) : ∃ a y, v = .ref a ∧ H a = some (.tup [.str "entries", optV lo, optV hi, y]) ∧ DT H y d := by
  obtain ⟨a, xs, rfl, ha, t⟩ := DT.tup_inv h
  obtain ⟨v0, r0, rfl, h0, t⟩ := DTs.cons_inv t
  obtain ⟨v1, r1, rfl, h1, t⟩ := DTs.cons_inv t
  obtain ⟨v2, r2, rfl, h2, t⟩ := DTs.cons_inv t
  obtain ⟨v3, r3, rfl, h3, t⟩ := DTs.cons_inv t
  cases DTs.nil_inv t
  cases DT.str_inv h0
  cases optV_inv h1
  cases optV_inv h2
  exact ⟨a, v3, rfl, ha, h3⟩
section
variable {P : Program} {w : World} {K : PySem.W.Frag} {mg : Str → Option Value} {base : Heap}
theorem scHas : FnScope ["note", "key"] ["note", "key"] (defScope sHas) := ⟨rfl, rfl, rfl, by decide +kernel, rfl, by decide +kernel, by decide +kernel⟩
theorem ok_has {f : Addr} {fd : FuncData} (F : FnP K "has_key" sHas f fd) : FnOk P w K mg base CX0 1 f fd ["note", "key"] spNK := by
  refine F.ok scHas (fun vs H Q E h => ?_) (fun cdv A outer s H vs Q E hr h => ?_)
  · obtain ⟨v, t, k, rfl, _⟩ := h
    rfl
  · obtain ⟨v, t, k, rfl, ht, q⟩ := h
    refine ⟨_, pss_cons (ps_if (pt_cmpR op_eq (pe_ix ix_tup (pv 0) pe_int (fun _ _ => rfl)) pe_str (nomark _))
        (pss_one (ps_ret (pe_cmpR op_eq (pe_ix ix_tup (pv 0) pe_int (fun _ _ => rfl)) (pv 1) (nomark _)))) pss_nil)
      (pss_one (ps_ret (pe_and (pe_or (pe_cmpR op_isN (pe_ix ix_tup (pv 0) pe_int (fun _ _ => rfl)) pe_non (nomark _)) (pe_one (pe_cmpR op_le_str (pe_ix ix_tup (pv 0) pe_int (fun _ _ => rfl)) (pv 1) (nomark _))))
        (pe_one (pe_or (pe_cmpR op_isN (pe_ix ix_tup (pv 0) pe_int (fun _ _ => rfl)) pe_non (nomark _)) (pe_one (pe_cmpR op_lt_str (pv 1) (pe_ix ix_tup (pv 0) pe_int (fun _ _ => rfl)) (nomark _)))))))), ?_⟩
    cases t with
    | val k' d =>
      obtain ⟨a, y, rfl, ha, _⟩ := Nt.val_parts ht
      refine ⟨_, rfl, a, _, 0, _, rfl, rfl, SqT.of ha, atI_nat (j := 0) rfl, rfl, _, rfl, ?_⟩
      rw [decide_eq_true rfl]
      refine iteT ⟨_, rfl, a, _, 1, _, rfl, rfl, SqT.of ha, atI_nat (j := 1) rfl, _, rfl, rfl, ?_⟩
      have e : decide (V.str k' = V.str k) = decide (k' = k) := by
        by_cases z : k' = k
        · rw [z, decide_eq_true rfl, decide_eq_true rfl]
        · rw [decide_eq_false z, decide_eq_false fun u => z (V.str.inj u)]
      rw [e]
      exact q
    | ent lo hi d =>
      obtain ⟨a, y, rfl, ha, _⟩ := Nt.ent_parts ht
      refine ⟨_, rfl, a, _, 0, _, rfl, rfl, SqT.of ha, atI_nat (j := 0) rfl, rfl, _, rfl, ?_⟩
      rw [decide_eq_false ev_ne]
      refine iteF ?_
      have hiR : ∀ c : Bool, c = loOk lo k → if c = true then
          (tOrV (tOp (fun x y H Q => y = V.non ∧ Q (.bl (decide (x = .non))) H) (tOp (rIxT K) (tVar 0) (tC (.int 2))) (tC .non)) (tOp (fun x y H Q => ∃ i j, x = .str i ∧ y = .str j ∧ Q (.bl (decide (i.cps.toList < j.cps.toList))) H) (tVar 1) (tOp (rIxT K) (tVar 0) (tC (.int 2))))) [some (.ref a), some (.str k)] H Q
          else Q (.bl false) H := by
        intro c hc
        subst hc
        cases e1 : loOk lo k with
        | false =>
          refine iteF ?_
          have e2 : Nt.has (.ent lo hi d) k = false := by
            show (loOk lo k && hiOk hi k) = false
            rw [e1]
            rfl
          rw [e2] at q
          exact q
        | true =>
          refine iteT ⟨_, rfl, a, _, 2, _, rfl, rfl, SqT.of ha, atI_nat (j := 2) rfl, rfl, _, rfl, ?_⟩
          have e2 : Nt.has (.ent lo hi d) k = hiOk hi k := by
            show (loOk lo k && hiOk hi k) = hiOk hi k
            rw [e1]
            rfl
          rw [e2] at q
          cases hi with
          | none => exact iteT q
          | some h =>
            refine iteF ⟨_, rfl, _, rfl, a, _, 2, _, rfl, rfl, SqT.of ha, atI_nat (j := 2) rfl, _, _, rfl, rfl, ?_⟩
            exact q
      refine ⟨_, rfl, a, _, 1, _, rfl, rfl, SqT.of ha, atI_nat (j := 1) rfl, rfl, _, rfl, ?_⟩
      cases lo with
      | none => exact iteT ⟨_, rfl, hiR true rfl⟩
      | some l =>
        refine iteF ⟨_, rfl, a, _, 1, _, rfl, rfl, SqT.of ha, atI_nat (j := 1) rfl, _, rfl, _, _, rfl, rfl, _, rfl, ?_⟩
        exact hiR _ rfl
end
end K46

set_option Elab.async false
set_option linter.all false
set_option maxRecDepth 100000
set_option maxHeartbeats 4000000
/-! K46C: walks; read_of, follows_writes, follows_read, leads; _law_has, _law_misses. -/
namespace K46
open PySem PySem.Spec PyProof.Rows L2
/-! ### walks with any body -/
theorem walk_tup {K : PySem.W.Frag} {a : Addr} {xs : List V} {Body : V → Hp → (Hp → Prop) → Prop} {Qd : Hp → Prop} {H0 : Hp} (Pv : Nat → Hp → Prop) (h0 : Pv 0 H0) (hl : ∀ i H, i ≤ xs.length → Pv i H → SqT K H a xs)
    (hs : ∀ i x H, xs[i]? = some x → Pv i H → Body x H (Pv (i + 1))) (hd : ∀ H, Pv xs.length H → Qd H) :
    ∃ W : Nat → Nat → Hp → Prop, (∃ m, W 0 m H0) ∧ ∀ i m H, W i m H →
      ((Itt K a).stop i H ∧ Qd H) ∨ ((Itt K a).go i H ∧ ∃ Nx : Hp → Prop, (∀ H', Nx H' → ∃ m', m' < m ∧ W (i + 1) m' H') ∧ ∀ x H', (Itt K a).yld i H x H' → Body x H' Nx) := by
  refine ⟨fun i m H => m = xs.length - i ∧ i ≤ xs.length ∧ Pv i H, ⟨xs.length, by simp, Nat.zero_le _, h0⟩, ?_⟩
  rintro i m H ⟨rfl, hi, p⟩
  have q := hl i H hi p
  by_cases hlt : i < xs.length
  · refine .inr ⟨⟨xs, xs[i], q, by simp [hlt]⟩, Pv (i + 1), fun H' p' => ⟨xs.length - (i + 1), by omega, rfl, hlt, p'⟩, fun x H' y => ?_⟩
    obtain ⟨e, y⟩ := y
    subst e
    exact hs i x _ (y xs q) p
  · have e : i = xs.length := by omega
    subst e
    exact .inl ⟨⟨xs, q, Nat.le_refl _⟩, hd H p⟩
theorem walk_list {K : PySem.W.Frag} {a : Addr} {xs : List V} {Body : V → Hp → (Hp → Prop) → Prop} {Qd : Hp → Prop} {H0 : Hp} (Pv : Nat → Hp → Prop) (h0 : Pv 0 H0) (hl : ∀ i H, i ≤ xs.length → Pv i H → SqL K H a xs)
    (hs : ∀ i x H, xs[i]? = some x → Pv i H → Body x H (Pv (i + 1))) (hd : ∀ H, Pv xs.length H → Qd H) :
    ∃ W : Nat → Nat → Hp → Prop, (∃ m, W 0 m H0) ∧ ∀ i m H, W i m H →
      ((Itl K a).stop i H ∧ Qd H) ∨ ((Itl K a).go i H ∧ ∃ Nx : Hp → Prop, (∀ H', Nx H' → ∃ m', m' < m ∧ W (i + 1) m' H') ∧ ∀ x H', (Itl K a).yld i H x H' → Body x H' Nx) := by
  refine ⟨fun i m H => m = xs.length - i ∧ i ≤ xs.length ∧ Pv i H, ⟨xs.length, by simp, Nat.zero_le _, h0⟩, ?_⟩
  rintro i m H ⟨rfl, hi, p⟩
  have q := hl i H hi p
  by_cases hlt : i < xs.length
  · refine .inr ⟨⟨xs, xs[i], q, by simp [hlt]⟩, Pv (i + 1), fun H' p' => ⟨xs.length - (i + 1), by omega, rfl, hlt, p'⟩, fun x H' y => ?_⟩
    obtain ⟨e, y⟩ := y
    subst e
    exact hs i x _ (y xs q) p
  · have e : i = xs.length := by omega
    subst e
    exact .inl ⟨⟨xs, q, Nat.le_refl _⟩, hd H p⟩
theorem walk_range {lo : Int} {n : Nat} {Body : V → Hp → (Hp → Prop) → Prop} {Qd : Hp → Prop} {H0 : Hp} (Pv : Nat → Hp → Prop) (h0 : Pv 0 H0)
    (hs : ∀ i H, i < n → Pv i H → Body (.int (lo + i)) H (Pv (i + 1))) (hd : ∀ H, Pv n H → Qd H) :
    ∃ W : Nat → Nat → Hp → Prop, (∃ m, W 0 m H0) ∧ ∀ i m H, W i m H →
      ((Itr lo n).stop i H ∧ Qd H) ∨ ((Itr lo n).go i H ∧ ∃ Nx : Hp → Prop, (∀ H', Nx H' → ∃ m', m' < m ∧ W (i + 1) m' H') ∧ ∀ x H', (Itr lo n).yld i H x H' → Body x H' Nx) := by
  refine ⟨fun i m H => m = n - i ∧ i ≤ n ∧ Pv i H, ⟨n, by simp, Nat.zero_le _, h0⟩, ?_⟩
  rintro i m H ⟨rfl, hi, p⟩
  by_cases hlt : i < n
  · refine .inr ⟨hlt, Pv (i + 1), fun H' p' => ⟨n - (i + 1), by omega, rfl, hlt, p'⟩, fun x H' y => ?_⟩
    obtain ⟨e, y⟩ := y
    subst e y
    exact hs i _ hlt p
  · have e : i = n := by omega
    subst e
    exact .inl ⟨Nat.le_refl _, hd H p⟩
/-! ### lists of answers -/
theorem take_snoc {α : Type} {l : List α} {i : Nat} {x : α} (h : l[i]? = some x) : l.take (i + 1) = l.take i ++ [x] := by
  rw [List.take_add_one, h]
  rfl
def bsL (ts : List Nt) (ks : List Str) : List Bool := ts.flatMap fun t => ks.map t.has
theorem bsL_snoc (ts : List Nt) (t : Nt) (ks : List Str) : bsL (ts ++ [t]) ks = bsL ts ks ++ ks.map t.has := by
  unfold bsL
  rw [List.flatMap_append]
  simp
theorem bsL_len (ts : List Nt) (ks : List Str) : (bsL ts ks).length = ts.length * ks.length := by
  induction ts with
  | nil => simp [bsL]
  | cons t r ih =>
    have e : bsL (t :: r) ks = ks.map t.has ++ bsL r ks := by simp [bsL]
    rw [e, List.length_append, List.length_map, ih, List.length_cons, Nat.add_mul]
    omega
theorem bsL_any (ts : List Nt) (ks : List Str) : (bsL ts ks).any id = ts.any fun t => ks.any fun k => t.has k := by
  induction ts with
  | nil => rfl
  | cons t r ih =>
    have e : bsL (t :: r) ks = ks.map t.has ++ bsL r ks := by simp [bsL]
    rw [e, List.any_append, ih, List.any_cons, List.any_map]
    rfl
theorem DTs.nts {H : Hp} {vs : List V} {ts : List Nt} (h : DTs H vs (ts.map Nt.d)) {i : Nat} {v : V} (e : vs[i]? = some v) : ∃ t, ts[i]? = some t ∧ DT H v (Nt.d t) := by
  obtain ⟨d, h1, h2⟩ := h.get e
  rw [List.getElem?_map] at h1
  cases q : ts[i]? with
  | none =>
    rw [q] at h1
    cases h1
  | some t =>
    rw [q] at h1
    cases (Option.some.inj h1)
    exact ⟨t, rfl, h2⟩
theorem strs_get {ks : List Str} {i : Nat} {v : V} (h : (ks.map V.str)[i]? = some v) : ∃ k, ks[i]? = some k ∧ v = .str k := by
  rw [List.getElem?_map] at h
  cases q : ks[i]? with
  | none =>
    rw [q] at h
    cases h
  | some k =>
    rw [q] at h
    exact ⟨k, rfl, (Option.some.inj h).symm⟩
theorem few_lt {a b c : Nat} (ha : a ≤ 8) (hb : b ≤ 8) (hc : c ≤ 8) : a * b + c < sizeLine := by
  have h : a * b ≤ 8 * 8 := Nat.mul_le_mul ha hb
  exact small1000 (by omega)
section
variable {P : Program} {w : World} {K : PySem.W.Frag} {mg : Str → Option Value} {base : Heap}
theorem scRead : FnScope ["node", "other", "note", "key"] ["node", "other"] (defScope sRead) := ⟨rfl, rfl, rfl, by decide +kernel, rfl, by decide +kernel, by decide +kernel⟩
theorem ok_read {f fH : Addr} {fd fdH : FuncData} (F : FnP K "read_of" sRead f fd) (FH : FnP K "has_key" sHas fH fdH) (bH : Binds K fdH ["note", "key"] []) (gH : mg "has_key" = some (.ref fH)) (ma : mg "any" = none) :
    FnOk P w K mg base CX0 2 f fd ["node", "other"] (spNN readOf) := by
  have GH : FnOk P w K mg base CX0 1 fH fdH ["note", "key"] spNK := ok_has FH
  refine F.ok scRead (fun vs H Q E h => ?_) (fun cdv A outer s H vs Q E hr h => ?_)
  · obtain ⟨v1, v2, n, m, rfl, _⟩ := h
    rfl
  · obtain ⟨v1, v2, n, m, rfl, hn, hm, q⟩ := h
    refine ⟨_, pss_one (ps_ret (pe_callB (cr_any rfl) (by rfl) ma (by decide +kernel) (pa_cons (pe_lc2 (own := [("note", 2), ("key", 3)]) (vs1 := [3]) (g := gName 2) (g1 := gName 3) (tt := tYes) (tt1 := tYes) (wi1 := iTup K (tOp (rIxT K) (tVar 1) (tC (.int 3)))) rfl scRead.nd
        (pi_tup (pe_ix ix_tup (pv 0) pe_int (fun _ _ => rfl))) (blkOk_by (N := ["node", "other", "note", "key"]) (sc := defScope sRead) (by decide +kernel)) (by decide)
        (fun _ _ _ _ _ => pg_name (i := 2) scRead.nd rfl (Or.inl rfl)) (fun _ _ _ _ _ => pts_nil) (fun _ _ _ _ _ => pi_tup (pe_ix ix_tup (pv 1) pe_int (fun _ _ => rfl)))
        (fun _ _ _ _ _ => pg_name (i := 3) scRead.nd rfl (Or.inl rfl)) (fun _ _ _ _ _ => pts_nil)
        (fun _ _ _ _ _ => pe_call GH hr (by rfl) gH FH.kp bH .nil pass0 (pa_cons (pv 2) (pa_cons (pv 3) pa_nil)))) pa_nil))), ?_⟩
    obtain ⟨a, an, ak, ns, rfl, ha, han, hns, hak⟩ := hn.parts
    obtain ⟨b, bn, bk, ms, rfl, hb, hbn, hms, hbk⟩ := hm.parts
    have hl : ns.length = n.notes.length := by
      have e := hns.length
      rw [List.length_map] at e
      exact e
    refine ⟨_, rfl, a, _, 2, _, rfl, rfl, SqT.of ha, atI_nat (j := 2) rfl, an, rfl, ⟨_, SqT.of han⟩, fun D hD => ?_⟩
    refine walk_tup (K := K) (a := an) (xs := ns) (fun i H' => Same H H' ∧ H' D = some (.lst ((bsL (n.notes.take i) m.keys).map V.bl))) ⟨same_upd hD, upd_same⟩ (fun i H' _ p => SqT.of (p.1 _ _ han)) (fun i x H' hx p => ?_) (fun H' p => ?_)
    · obtain ⟨t, ht, dx⟩ := hns.nts hx
      refine ⟨rfl, _, rfl, b, _, 3, _, rfl, rfl, SqT.of (p.1 _ _ hb), atI_nat (j := 3) rfl, bk, rfl, ⟨_, SqT.of (p.1 _ _ hbk)⟩, ?_⟩
      refine walk_tup (K := K) (a := bk) (xs := m.keys.map V.str) (fun j H2 => Same H H2 ∧ H2 D = some (.lst ((bsL (n.notes.take i) m.keys ++ (m.keys.take j).map t.has).map V.bl))) ⟨p.1, by simpa using p.2⟩ (fun j H2 _ p2 => SqT.of (p2.1 _ _ hbk)) (fun j y H2 hy p2 => ?_) (fun H2 p2 => ?_)
      · obtain ⟨k, hk, rfl⟩ := strs_get hy
        refine ⟨rfl, _, rfl, _, rfl, _, t, k, rfl, dx.mono (Same.tups p2.1), _, p2.2, ?_, fun c o e => ?_, ?_⟩
        · have l1 := hn.fewN
          have l2 := hm.fewK
          rw [List.length_map, List.length_append, List.length_map, bsL_len, List.length_take, List.length_take]
          exact few_lt (by omega) l2 (by omega)
        · rw [upd_ne (ne_of_none e hD)]
          exact p2.1 _ _ e
        · rw [upd_same, take_snoc hk]
          simp
      · refine ⟨p2.1, ?_⟩
        rw [p2.2, take_snoc ht, bsL_snoc, List.length_map, List.take_length]
    · have e := p.2
      rw [hl, List.take_length] at e
      refine ⟨D, _, rfl, SqL.of e, ?_⟩
      rw [bsL_any]
      exact q H' p.1
theorem scFW : FnScope ["one", "other", "key"] ["one", "other"] (defScope sFW) := ⟨rfl, rfl, rfl, by decide +kernel, rfl, by decide +kernel, by decide +kernel⟩
theorem inV_strs (k : Str) : ∀ ks : List Str, inV (.str k) (ks.map V.str) = decide (k ∈ ks)
  | [] => by simp [inV]
  | x :: r => by
    have ih := inV_strs k r
    have e : inV (.str k) ((x :: r).map V.str) = (eqV (.str x) (.str k) || inV (.str k) (r.map V.str)) := rfl
    have e2 : eqV (.str x) (.str k) = decide (x = k) := by
      show (x == k) = decide (x = k)
      by_cases z : x = k
      · simp [z]
      · rw [decide_eq_false z]
        exact beq_eq_false_iff_ne.mpr z
    rw [e, ih, e2]
    by_cases z : x = k
    · simp [z]
    · have z' : ¬ k = x := fun u => z u.symm
      simp [z, z', List.mem_cons]
theorem flat_strs (ks : List Str) : (ks.map V.str).all flatV = true := by
  rw [List.all_eq_true]
  intro x hx
  obtain ⟨k, _, rfl⟩ := List.mem_map.mp hx
  rfl
theorem any_map_bl {α : Type} (l : List α) (g : α → Bool) : (l.map g).any id = l.any g := by
  rw [List.any_map]
  rfl
theorem ok_fw {f fR : Addr} {fd fdR : FuncData} (F : FnP K "follows_writes" sFW f fd) (GR : FnOk P w K mg base CX0 2 fR fdR ["node", "other"] (spNN readOf)) (kR : PySem.W.keepIn K (.ref fR) = true) (bR : Binds K fdR ["node", "other"] []) (gR : mg "read_of" = some (.ref fR)) (ma : mg "any" = none) :
    FnOk P w K mg base CX0 3 f fd ["one", "other"] (spNN fw) := by
  refine F.ok scFW (fun vs H Q E h => ?_) (fun cdv A outer s H vs Q E hr h => ?_)
  · obtain ⟨v1, v2, n, m, rfl, _⟩ := h
    rfl
  · obtain ⟨v1, v2, n, m, rfl, hn, hm, q⟩ := h
    refine ⟨_, pss_cons (ps_if (PW.pt (pw_and (pt_cmpR op_lt (pe_ix ix_tup (pv 0) pe_int (fun _ _ => rfl)) (pe_ix ix_tup (pv 1) pe_int (fun _ _ => rfl)) (nomark _))
          (pw_and1 (pt_val (pe_callB (cr_any rfl) (by rfl) ma (by decide +kernel) (pa_cons (pe_lc (own := [("key", 2)]) (g := gName 2) (tt := tYes) (te := tOp (rIn K false) (tVar 2) (tOp (rIxT K) (tVar 1) (tC (.int 3)))) rfl scFW.nd
            (pi_tup (pe_ix ix_tup (pv 0) pe_int (fun _ _ => rfl))) (blkOk_by (N := ["one", "other", "key"]) (sc := defScope sFW) (by decide +kernel))
            (fun _ _ _ _ _ => pg_name (i := 2) scFW.nd rfl (Or.inl rfl)) (fun _ _ _ _ _ => pts_nil)
            (fun _ _ _ _ _ => pe_cmpR op_in_seq (pv 2) (pe_ix ix_tup (pv 1) pe_int (fun _ _ => rfl)) (by rfl))) pa_nil))))))
          (pss_one (ps_ret pe_bl)) pss_nil)
      (pss_one (ps_ret (pe_and (pe_cmpR op_le (pe_ix ix_tup (pv 0) pe_int (fun _ _ => rfl)) (pe_ix ix_tup (pv 1) pe_int (fun _ _ => rfl)) (nomark _))
        (pe_one (pe_call GR hr (by rfl) gR kR bR .nil pass0 (pa_cons (pv 1) (pa_cons (pv 0) pa_nil))))))), ?_⟩
    obtain ⟨a, an, ak, ns, rfl, ha, han, hns, hak⟩ := hn.parts
    obtain ⟨b, bn, bk, ms, rfl, hb, hbn, hms, hbk⟩ := hm.parts
    have rest : ∀ (X : L2.St) (H' : Hp), X[0]? = some (some (.ref a)) → X[1]? = some (some (.ref b)) → Same H H' → (decide (n.num < m.num) && n.keys.any fun k => decide (k ∈ m.keys)) = false →
        tAndV (tOp (rI0 fun i j => .bl (decide (i ≤ j))) (tOp (rIxT K) (tVar 0) (tC (.int 0))) (tOp (rIxT K) (tVar 1) (tC (.int 1)))) (tCall (spNN readOf) [] E0 (tCons (tVar 1) (tCons (tVar 0) tNil))) X H' Q := by
      intro X H' x0 x1 sm e
      refine ⟨_, x0, a, _, 0, _, rfl, rfl, SqT.of (sm _ _ ha), atI_nat (j := 0) rfl, _, x1, b, _, 1, _, rfl, rfl, SqT.of (sm _ _ hb), atI_nat (j := 1) rfl, _, _, rfl, rfl, _, rfl, ?_⟩
      have e2 : fw n m = (decide (n.num ≤ m.snap) && readOf m n) := by
        unfold fw
        rw [e, Bool.false_or]
      by_cases z : n.num ≤ m.snap
      · rw [decide_eq_true z]
        refine iteT ⟨_, x1, _, x0, .ref b, .ref a, m, n, rfl, hm.mono (Same.tups sm), hn.mono (Same.tups sm), fun H2 sm2 => ?_⟩
        rw [decide_eq_true z, Bool.true_and] at e2
        rw [← e2]
        exact q H2 (sm.trans sm2)
      · rw [decide_eq_false z]
        rw [decide_eq_false z, Bool.false_and] at e2
        refine iteF ?_
        rw [← e2]
        exact q H' sm
    refine ⟨_, rfl, a, _, 0, _, rfl, rfl, SqT.of ha, atI_nat (j := 0) rfl, _, rfl, b, _, 0, _, rfl, rfl, SqT.of hb, atI_nat (j := 0) rfl, _, _, rfl, rfl, _, rfl, ?_⟩
    by_cases z : n.num < m.num
    · rw [decide_eq_true z]
      refine iteT ⟨_, rfl, a, _, 3, _, rfl, rfl, SqT.of ha, atI_nat (j := 3) rfl, ak, rfl, ⟨_, SqT.of hak⟩, fun D hD => ?_⟩
      refine walk_tup (K := K) (a := ak) (xs := n.keys.map V.str) (fun i H' => Same H H' ∧ H' D = some (.lst (((n.keys.take i).map fun k => decide (k ∈ m.keys)).map V.bl))) ⟨same_upd hD, upd_same⟩ (fun i H' _ p => SqT.of (p.1 _ _ hak)) (fun i x H' hx p => ?_) (fun H' p => ?_)
      · obtain ⟨k, hk, rfl⟩ := strs_get hx
        refine ⟨rfl, _, rfl, _, rfl, b, _, 3, _, rfl, rfl, SqT.of (p.1 _ _ hb), atI_nat (j := 3) rfl, bk, _, rfl, .inr (SqT.of (p.1 _ _ hbk)), rfl, flat_strs _, _, p.2, ?_, fun c o e => ?_, ?_⟩
        · have l1 := hn.fewK
          rw [List.length_map, List.length_map, List.length_take]
          exact small1000 (by omega)
        · rw [upd_ne (ne_of_none e hD)]
          exact p.1 _ _ e
        · rw [upd_same, take_snoc hk]
          simp [inV_strs]
      · have e := p.2
        rw [List.length_map, List.take_length] at e
        refine ⟨D, _, rfl, SqL.of e, _, rfl, ?_⟩
        rw [any_map_bl]
        by_cases y : (n.keys.any fun k => decide (k ∈ m.keys)) = true
        · rw [y]
          refine iteT ?_
          have e3 : fw n m = true := by
            unfold fw
            rw [y, decide_eq_true z]
            rfl
          rw [e3] at q
          exact q H' p.1
        · have y' : (n.keys.any fun k => decide (k ∈ m.keys)) = false := by simpa using y
          rw [y']
          refine iteF (rest _ _ rfl rfl p.1 ?_)
          rw [y', Bool.and_false]
    · rw [decide_eq_false z]
      refine iteF (iteF (rest _ _ rfl rfl (Same.refl H) ?_))
      rw [decide_eq_false z, Bool.false_and]
theorem scFR : FnScope ["one", "other"] ["one", "other"] (defScope sFR) := ⟨rfl, rfl, rfl, by decide +kernel, rfl, by decide +kernel, by decide +kernel⟩
theorem ok_fr {f fR : Addr} {fd fdR : FuncData} (F : FnP K "follows_read" sFR f fd) (GR : FnOk P w K mg base CX0 2 fR fdR ["node", "other"] (spNN readOf)) (kR : PySem.W.keepIn K (.ref fR) = true) (bR : Binds K fdR ["node", "other"] []) (gR : mg "read_of" = some (.ref fR)) :
    FnOk P w K mg base CX0 3 f fd ["one", "other"] (spNN fr) := by
  refine F.ok scFR (fun vs H Q E h => ?_) (fun cdv A outer s H vs Q E hr h => ?_)
  · obtain ⟨v1, v2, n, m, rfl, _⟩ := h
    rfl
  · obtain ⟨v1, v2, n, m, rfl, hn, hm, q⟩ := h
    refine ⟨_, pss_one (ps_ret (pe_and (pe_cmpR op_gt (pe_ix ix_tup (pv 1) pe_int (fun _ _ => rfl)) (pe_ix ix_tup (pv 0) pe_int (fun _ _ => rfl)) (nomark _))
        (pe_one (pe_call GR hr (by rfl) gR kR bR .nil pass0 (pa_cons (pv 0) (pa_cons (pv 1) pa_nil)))))), ?_⟩
    obtain ⟨a, an, ak, ns, rfl, ha, han, hns, hak⟩ := hn.parts
    obtain ⟨b, bn, bk, ms, rfl, hb, hbn, hms, hbk⟩ := hm.parts
    refine ⟨_, rfl, b, _, 0, _, rfl, rfl, SqT.of hb, atI_nat (j := 0) rfl, _, rfl, a, _, 1, _, rfl, rfl, SqT.of ha, atI_nat (j := 1) rfl, _, _, rfl, rfl, _, rfl, ?_⟩
    by_cases z : n.snap < m.num
    · rw [decide_eq_true z]
      refine iteT ⟨_, rfl, _, rfl, .ref a, .ref b, n, m, rfl, hn, hm, fun H2 sm2 => ?_⟩
      have e2 : fr n m = readOf n m := by
        unfold fr
        rw [decide_eq_true z, Bool.true_and]
      rw [← e2]
      exact q H2 sm2
    · rw [decide_eq_false z]
      have e2 : fr n m = false := by
        unfold fr
        rw [decide_eq_false z, Bool.false_and]
      refine iteF ?_
      rw [← e2]
      exact q H (Same.refl H)
theorem scLd : FnScope ["one", "other"] ["one", "other"] (defScope sLeads) := ⟨rfl, rfl, rfl, by decide +kernel, rfl, by decide +kernel, by decide +kernel⟩
theorem ok_leads {f fW fR : Addr} {fd fdW fdR : FuncData} (F : FnP K "leads" sLeads f fd) (GW : FnOk P w K mg base CX0 3 fW fdW ["one", "other"] (spNN fw)) (kW : PySem.W.keepIn K (.ref fW) = true) (bW : Binds K fdW ["one", "other"] []) (gW : mg "follows_writes" = some (.ref fW))
    (GR : FnOk P w K mg base CX0 3 fR fdR ["one", "other"] (spNN fr)) (kR : PySem.W.keepIn K (.ref fR) = true) (bR : Binds K fdR ["one", "other"] []) (gR : mg "follows_read" = some (.ref fR)) :
    FnOk P w K mg base CX0 4 f fd ["one", "other"] (spNN leadsB) := by
  refine F.ok scLd (fun vs H Q E h => ?_) (fun cdv A outer s H vs Q E hr h => ?_)
  · obtain ⟨v1, v2, n, m, rfl, _⟩ := h
    rfl
  · obtain ⟨v1, v2, n, m, rfl, hn, hm, q⟩ := h
    refine ⟨_, pss_one (ps_ret (pe_and (pe_cmpR op_ne (pe_ix ix_tup (pv 0) pe_int (fun _ _ => rfl)) (pe_ix ix_tup (pv 1) pe_int (fun _ _ => rfl)) (nomark _))
        (pe_one (pe_or (pe_call GW hr (by rfl) gW kW bW .nil pass0 (pa_cons (pv 0) (pa_cons (pv 1) pa_nil))) (pe_one (pe_call GR hr (by rfl) gR kR bR .nil pass0 (pa_cons (pv 0) (pa_cons (pv 1) pa_nil)))))))), ?_⟩
    obtain ⟨a, an, ak, ns, rfl, ha, han, hns, hak⟩ := hn.parts
    obtain ⟨b, bn, bk, ms, rfl, hb, hbn, hms, hbk⟩ := hm.parts
    refine ⟨_, rfl, a, _, 0, _, rfl, rfl, SqT.of ha, atI_nat (j := 0) rfl, _, rfl, b, _, 0, _, rfl, rfl, SqT.of hb, atI_nat (j := 0) rfl, rfl, _, rfl, ?_⟩
    by_cases z : n.num = m.num
    · rw [z, decide_eq_true rfl]
      refine iteF ?_
      have e : leadsB n m = false := by
        unfold leadsB
        rw [decide_eq_false (fun u => u z), Bool.false_and]
      rw [← e]
      exact q H (Same.refl H)
    · rw [decide_eq_false fun u => z (V.int.inj u)]
      have e : leadsB n m = (fw n m || fr n m) := by
        unfold leadsB
        rw [decide_eq_true z, Bool.true_and]
      refine iteT ⟨_, rfl, _, rfl, .ref a, .ref b, n, m, rfl, hn, hm, fun H2 sm2 => ⟨_, rfl, ?_⟩⟩
      cases y : fw n m with
      | true =>
        refine iteT ?_
        rw [y, Bool.true_or] at e
        rw [e] at q
        exact q H2 sm2
      | false =>
        rw [y, Bool.false_or] at e
        refine iteF ⟨_, rfl, _, rfl, .ref a, .ref b, n, m, rfl, hn.mono (Same.tups sm2), hm.mono (Same.tups sm2), fun H3 sm3 => ?_⟩
        rw [← e]
        exact q H3 (sm2.trans sm3)
end
end K46

set_option Elab.async false
set_option linter.all false
set_option maxRecDepth 100000
set_option maxHeartbeats 4000000
/-! K46D: _law_has, _law_misses. -/
namespace K46
open PySem PySem.Spec PyProof.Rows L2
theorem any_swap {α β : Type} (l : List α) (r : List β) (g : α → β → Bool) : (l.any fun x => r.any fun y => g x y) = r.any fun y => l.any fun x => g x y := by
  rw [Bool.eq_iff_iff]
  simp only [List.any_eq_true]
  constructor
  · rintro ⟨x, hx, y, hy, e⟩
    exact ⟨y, hy, x, hx, e⟩
  · rintro ⟨y, hy, x, hx, e⟩
    exact ⟨x, hx, y, hy, e⟩
section
variable {P : Program} {w : World} {K : PySem.W.Frag} {mg : Str → Option Value} {base : Heap}
theorem scLHas : FnScope ["_law_note_here", "_law_key"] ["_law_note_here", "_law_key"] (defScope sLHas) := ⟨rfl, rfl, rfl, by decide +kernel, rfl, by decide +kernel, by decide +kernel⟩
theorem ok_lhas {f : Addr} {fd : FuncData} (F : FnP K "_law_has" sLHas f fd) : FnOk P w K mg base CX0 1 f fd ["_law_note_here", "_law_key"] spNK := by
  refine F.ok scLHas (fun vs H Q E h => ?_) (fun cdv A outer s H vs Q E hr h => ?_)
  · obtain ⟨v, t, k, rfl, _⟩ := h
    rfl
  · obtain ⟨v, t, k, rfl, ht, q⟩ := h
    refine ⟨_, pss_cons (ps_if (pt_cmpR op_eq (pe_ix ix_tup (pv 0) pe_int (fun _ _ => rfl)) pe_str (nomark _))
        (pss_one (ps_ret (pe_cmpR op_eq (pv 1) (pe_ix ix_tup (pv 0) pe_int (fun _ _ => rfl)) (nomark _)))) pss_nil)
      (pss_one (ps_ret (pe_and (pe_not (pe_and (pe_cmpR op_notN (pe_ix ix_tup (pv 0) pe_int (fun _ _ => rfl)) pe_non (nomark _)) (pe_one (pe_cmpR op_lt_str (pv 1) (pe_ix ix_tup (pv 0) pe_int (fun _ _ => rfl)) (nomark _)))))
        (pe_one (pe_not (pe_and (pe_cmpR op_notN (pe_ix ix_tup (pv 0) pe_int (fun _ _ => rfl)) pe_non (nomark _)) (pe_one (pe_cmpR op_ge_str (pv 1) (pe_ix ix_tup (pv 0) pe_int (fun _ _ => rfl)) (nomark _))))))))), ?_⟩
    cases t with
    | val k' d =>
      obtain ⟨a, y, rfl, ha, _⟩ := Nt.val_parts ht
      refine ⟨_, rfl, a, _, 0, _, rfl, rfl, SqT.of ha, atI_nat (j := 0) rfl, rfl, _, rfl, ?_⟩
      rw [decide_eq_true rfl]
      refine iteT ⟨_, rfl, _, rfl, a, _, 1, _, rfl, rfl, SqT.of ha, atI_nat (j := 1) rfl, rfl, ?_⟩
      have e : decide (V.str k = V.str k') = decide (k' = k) := by
        by_cases z : k' = k
        · rw [z, decide_eq_true rfl, decide_eq_true rfl]
        · rw [decide_eq_false z, decide_eq_false fun u => z (V.str.inj u).symm]
      rw [e]
      exact q
    | ent lo hi d =>
      obtain ⟨a, y, rfl, ha, _⟩ := Nt.ent_parts ht
      refine ⟨_, rfl, a, _, 0, _, rfl, rfl, SqT.of ha, atI_nat (j := 0) rfl, rfl, _, rfl, ?_⟩
      rw [decide_eq_false ev_ne]
      refine iteF ?_
      have e2 : Nt.has (.ent lo hi d) k = (loOk lo k && hiOk hi k) := rfl
      rw [e2] at q
      cases lo with
      | none =>
        refine ⟨_, rfl, a, _, 1, _, rfl, rfl, SqT.of ha, atI_nat (j := 1) rfl, rfl, _, rfl, iteF ⟨_, rfl, _, rfl, iteT ?_⟩⟩
        cases hi with
        | none => exact ⟨_, rfl, a, _, 2, _, rfl, rfl, SqT.of ha, atI_nat (j := 2) rfl, rfl, _, rfl, iteF ⟨_, rfl, q⟩⟩
        | some h =>
          refine ⟨_, rfl, a, _, 2, _, rfl, rfl, SqT.of ha, atI_nat (j := 2) rfl, rfl, _, rfl, iteT ⟨_, rfl, _, rfl, a, _, 2, _, rfl, rfl, SqT.of ha, atI_nat (j := 2) rfl, _, _, rfl, rfl, _, rfl, ?_⟩⟩
          rw [Bool.not_not]
          exact q
      | some l =>
        refine ⟨_, rfl, a, _, 1, _, rfl, rfl, SqT.of ha, atI_nat (j := 1) rfl, rfl, _, rfl, iteT ⟨_, rfl, _, rfl, a, _, 1, _, rfl, rfl, SqT.of ha, atI_nat (j := 1) rfl, _, _, rfl, rfl, _, rfl, _, rfl, ?_⟩⟩
        have e3 : loOk (some l) k = !decide (k.cps.toList < l.cps.toList) := rfl
        rw [e3] at q
        cases z : decide (k.cps.toList < l.cps.toList) with
        | true =>
          rw [z] at q
          exact iteF q
        | false =>
          rw [z] at q
          refine iteT ?_
          cases hi with
          | none => exact ⟨_, rfl, a, _, 2, _, rfl, rfl, SqT.of ha, atI_nat (j := 2) rfl, rfl, _, rfl, iteF ⟨_, rfl, q⟩⟩
          | some h =>
            refine ⟨_, rfl, a, _, 2, _, rfl, rfl, SqT.of ha, atI_nat (j := 2) rfl, rfl, _, rfl, iteT ⟨_, rfl, _, rfl, a, _, 2, _, rfl, rfl, SqT.of ha, atI_nat (j := 2) rfl, _, _, rfl, rfl, _, rfl, ?_⟩⟩
            rw [Bool.not_not]
            exact q
def scMissIn : Scope := { kind := .function, names := [(".0", .local), ("_law_key", .cell), ("any", .globalImplicit), ("_law_one", .free)], isGenerator := false, isCoroutine := false, more := [] }
theorem scMiss : FnScope ["_law_one", "_law_other", "_law_key", "_law_note_here"] ["_law_one", "_law_other"] (defScope sMisses) := ⟨rfl, rfl, rfl, by decide +kernel, rfl, by decide +kernel, by decide +kernel⟩
theorem ok_misses {f fH : Addr} {fd fdH : FuncData} (F : FnP K "_law_misses" sMisses f fd) (FH : FnP K "_law_has" sLHas fH fdH) (bH : Binds K fdH ["_law_note_here", "_law_key"] []) (gH : mg "_law_has" = some (.ref fH)) (ma : mg "any" = none) :
    FnOk P w K mg base CX0 2 f fd ["_law_one", "_law_other"] (spNN missB) := by
  have GH : FnOk P w K mg base CX0 1 fH fdH ["_law_note_here", "_law_key"] spNK := ok_lhas FH
  refine F.ok scMiss (fun vs H Q E h => ?_) (fun cdv A outer s H vs Q E hr h => ?_)
  · obtain ⟨v1, v2, n, m, rfl, _⟩ := h
    rfl
  · obtain ⟨v1, v2, n, m, rfl, hn, hm, q⟩ := h
    refine ⟨_, pss_cons (ps_if (PW.pt (pw_or (pt_cmpR op_eq (pe_ix ix_tup (pv 0) pe_int (fun _ _ => rfl)) (pe_ix ix_tup (pv 1) pe_int (fun _ _ => rfl)) (nomark _))
          (pw_or1 (pt_cmpR op_le (pe_ix ix_tup (pv 1) pe_int (fun _ _ => rfl)) (pe_ix ix_tup (pv 0) pe_int (fun _ _ => rfl)) (nomark _))))) (pss_one (ps_ret pe_bl)) pss_nil)
      (pss_one (ps_ret (pe_callB (cr_any rfl) (by rfl) ma (by decide +kernel) (pa_cons (pe_lc (own := [("_law_key", 2)]) (g := gName 2) (tt := tYes)
        (te := tCB (rAny K) (tCons (tLc (iTup K (tOp (rIxT K) (tVar 0) (tC (.int 2)))) (gName 3) tYes (tCall spNK [] E0 (tCons (tVar 3) (tCons (tVar 2) tNil))) [3]) tNil)) rfl scMiss.nd
        (pi_tup (pe_ix ix_tup (pv 1) pe_int (fun _ _ => rfl))) (blkOk_by (N := ["_law_one", "_law_other", "_law_key", "_law_note_here"]) (sc := defScope sMisses) (by decide +kernel))
        (fun _ _ _ _ _ => pg_name (i := 2) scMiss.nd rfl (Or.inr rfl)) (fun _ _ _ _ _ => pts_nil)
        (fun _ _ _ _ _ => pe_callB (cr_any rfl) (by rfl) ma (by decide +kernel) (pa_cons (pe_lc (own := [("_law_note_here", 3)]) (g := gName 3) (tt := tYes) (te := tCall spNK [] E0 (tCons (tVar 3) (tCons (tVar 2) tNil))) rfl scMiss.nd
          (pi_tup (pe_ix ix_tup (pv 0) pe_int (fun _ _ => rfl))) (blkOk_by (N := ["_law_one", "_law_other", "_law_key", "_law_note_here"]) (sc := relS scMissIn (defScope sMisses)) (by decide +kernel))
          (fun _ _ _ _ _ => pg_name (i := 3) scMiss.nd rfl (Or.inl rfl)) (fun _ _ _ _ _ => pts_nil)
          (fun _ _ _ _ _ => pe_call GH hr (by rfl) gH FH.kp bH .nil pass0 (pa_cons (pv 3) (pa_cons (pv 2) pa_nil)))) pa_nil))) pa_nil)))), ?_⟩
    obtain ⟨a, an, ak, ns, rfl, ha, han, hns, hak⟩ := hn.parts
    obtain ⟨b, bn, bk, ms, rfl, hb, hbn, hms, hbk⟩ := hm.parts
    have hl : ns.length = n.notes.length := by
      have e := hns.length
      rw [List.length_map] at e
      exact e
    refine ⟨_, rfl, a, _, 0, _, rfl, rfl, SqT.of ha, atI_nat (j := 0) rfl, _, rfl, b, _, 0, _, rfl, rfl, SqT.of hb, atI_nat (j := 0) rfl, rfl, _, rfl, ?_⟩
    by_cases z : n.num = m.num
    · rw [z, decide_eq_true rfl]
      refine iteT (iteT ?_)
      have e : missB n m = false := by
        unfold missB
        rw [decide_eq_false (fun u => u z), Bool.false_and, Bool.false_and]
      rw [← e]
      exact q H (Same.refl H)
    rw [decide_eq_false fun u => z (V.int.inj u)]
    refine iteF ⟨_, rfl, b, _, 0, _, rfl, rfl, SqT.of hb, atI_nat (j := 0) rfl, _, rfl, a, _, 1, _, rfl, rfl, SqT.of ha, atI_nat (j := 1) rfl, _, _, rfl, rfl, _, rfl, ?_⟩
    by_cases y : m.num ≤ n.snap
    · rw [decide_eq_true y]
      refine iteT ?_
      have e : missB n m = false := by
        unfold missB
        rw [decide_eq_false (show ¬ n.snap < m.num by omega), Bool.and_false, Bool.false_and]
      rw [← e]
      exact q H (Same.refl H)
    rw [decide_eq_false y]
    have e : missB n m = readOf n m := by
      unfold missB
      rw [decide_eq_true z, decide_eq_true (show n.snap < m.num by omega), Bool.true_and, Bool.true_and]
    rw [e] at q
    refine iteF ⟨_, rfl, b, _, 3, _, rfl, rfl, SqT.of hb, atI_nat (j := 3) rfl, bk, rfl, ⟨_, SqT.of hbk⟩, fun D hD => ?_⟩
    refine walk_tup (K := K) (a := bk) (xs := m.keys.map V.str) (fun i H' => Same H H' ∧ H' D = some (.lst (((m.keys.take i).map fun k => n.notes.any fun t => t.has k).map V.bl))) ⟨same_upd hD, upd_same⟩ (fun i H' _ p => SqT.of (p.1 _ _ hbk)) (fun i x H' hx p => ?_) (fun H' p => ?_)
    · obtain ⟨k, hk, rfl⟩ := strs_get hx
      refine ⟨rfl, _, rfl, a, _, 2, _, rfl, rfl, SqT.of (p.1 _ _ ha), atI_nat (j := 2) rfl, an, rfl, ⟨_, SqT.of (p.1 _ _ han)⟩, fun D2 hD2 => ?_⟩
      have nD : D ≠ D2 := ne_of_none p.2 hD2
      refine walk_tup (K := K) (a := an) (xs := ns) (fun j H2 => Same H' H2 ∧ H2 D2 = some (.lst (((n.notes.take j).map fun t => t.has k).map V.bl))) ⟨same_upd hD2, upd_same⟩ (fun j H2 _ p2 => SqT.of (p2.1 _ _ (p.1 _ _ han))) (fun j y H2 hy p2 => ?_) (fun H2 p2 => ?_)
      · obtain ⟨t, ht, dx⟩ := hns.nts hy
        refine ⟨rfl, _, rfl, _, rfl, _, t, k, rfl, dx.mono ((Same.tups p.1).trans (Same.tups p2.1)), _, p2.2, ?_, fun c o e => ?_, ?_⟩
        · have l1 := hn.fewN
          rw [List.length_map, List.length_map, List.length_take]
          exact small1000 (by omega)
        · rw [upd_ne (ne_of_none e hD2)]
          exact p2.1 _ _ e
        · rw [upd_same, take_snoc ht]
          simp
      · have e2 := p2.2
        rw [hl, List.take_length] at e2
        refine ⟨D2, _, rfl, SqL.of e2, _, p2.1 _ _ p.2, ?_, fun c o e => ?_, ?_⟩
        · have l1 := hm.fewK
          rw [List.length_map, List.length_map, List.length_take]
          exact small1000 (by omega)
        · rw [upd_ne (ne_of_none e hD)]
          exact p2.1 _ _ (p.1 _ _ e)
        · rw [upd_same, take_snoc hk, any_map_bl]
          simp
    · have e2 := p.2
      rw [List.length_map, List.take_length] at e2
      refine ⟨D, _, rfl, SqL.of e2, ?_⟩
      rw [any_map_bl, any_swap]
      exact q H' p.1
end
end K46

set_option Elab.async false
set_option linter.all false
set_option maxRecDepth 100000
set_option maxHeartbeats 4000000
/-! K46M: the mathematics: what leads what, ways, rings, pivots. -/
namespace K46
open PySem PySem.Spec PyProof.Rows L2
/-! ### nodes by their numbers -/
def nodeOf (ns : List Nd) (x : Int) : Option Nd := ns.find? fun n => decide (n.num = x)
theorem nodeOf_mem {ns : List Nd} (nd : (ns.map Nd.num).Nodup) {n : Nd} (h : n ∈ ns) : nodeOf ns n.num = some n := by
  induction ns with
  | nil => cases h
  | cons m r ih =>
    rw [List.map_cons, List.nodup_cons] at nd
    unfold nodeOf
    rw [List.find?_cons]
    rcases List.mem_cons.mp h with e | h'
    · subst e
      simp
    · have ne : ¬ m.num = n.num := fun e => nd.1 (List.mem_map.mpr ⟨n, h', e.symm⟩)
      rw [decide_eq_false ne]
      exact ih nd.2 h'
theorem nodeOf_some {ns : List Nd} {x : Int} {n : Nd} (h : nodeOf ns x = some n) : n ∈ ns ∧ n.num = x := by
  unfold nodeOf at h
  exact ⟨List.mem_of_find?_eq_some h, by simpa using List.find?_some h⟩
theorem num_inj {ns : List Nd} (nd : (ns.map Nd.num).Nodup) {n m : Nd} (hn : n ∈ ns) (hm : m ∈ ns) (e : n.num = m.num) : n = m := by
  have a := nodeOf_mem nd hn
  have b := nodeOf_mem nd hm
  rw [e, b] at a
  exact (Option.some.inj a).symm
theorem node_there {ns : List Nd} {x : Int} (h : x ∈ ns.map Nd.num) : ∃ n ∈ ns, n.num = x := by
  obtain ⟨n, a, b⟩ := List.mem_map.mp h
  exact ⟨n, a, b⟩
/-! ### what leads what, by numbers -/
def Rel (ns : List Nd) (x y : Int) : Prop := ∃ n, n ∈ ns ∧ ∃ m, m ∈ ns ∧ n.num = x ∧ m.num = y ∧ leadsB n m = true
theorem Rel.ne {ns : List Nd} {x y : Int} (h : Rel ns x y) : x ≠ y := by
  obtain ⟨n, _, m, _, rfl, rfl, e⟩ := h
  unfold leadsB at e
  rw [Bool.and_eq_true] at e
  exact of_decide_eq_true e.1
theorem Rel.left {ns : List Nd} {x y : Int} (h : Rel ns x y) : x ∈ ns.map Nd.num := by
  obtain ⟨n, hn, m, _, rfl, _⟩ := h
  exact List.mem_map.mpr ⟨n, hn, rfl⟩
theorem Rel.right {ns : List Nd} {x y : Int} (h : Rel ns x y) : y ∈ ns.map Nd.num := by
  obtain ⟨n, hn, m, hm, _, rfl, _⟩ := h
  exact List.mem_map.mpr ⟨m, hm, rfl⟩
inductive Reach (ns : List Nd) : Int → Int → Prop
  | one {x y : Int} : Rel ns x y → Reach ns x y
  | more {x y z : Int} : Reach ns x y → Rel ns y z → Reach ns x z
theorem Reach.trans {ns : List Nd} {x y z : Int} (a : Reach ns x y) (b : Reach ns y z) : Reach ns x z := by
  induction b with
  | one r => exact .more a r
  | more _ r ih => exact .more ih r
theorem Reach.left {ns : List Nd} {x y : Int} (h : Reach ns x y) : x ∈ ns.map Nd.num := by
  induction h with
  | one r => exact r.left
  | more _ _ ih => exact ih
/-- a closed set that holds x, from which nothing leads back to x -/
theorem no_reach {ns : List Nd} {x : Int} {S : List Int} (hx : x ∈ S) (hc : ∀ s, s ∈ S → ∀ y, Rel ns s y → y ≠ x ∧ y ∈ S) : ¬ Reach ns x x := by
  have key : ∀ y, Reach ns x y → y ≠ x ∧ y ∈ S := by
    intro y h
    induction h with
    | one r => exact hc _ hx _ r
    | more _ r ih => exact hc _ ih.2 _ r
  exact fun h => (key x h).1 rfl
/-- of finitely many on no ring one is led by none of them -/
theorem least_one {ns : List Nd} : ∀ (ys : List Int), ys ≠ [] → (∀ x, x ∈ ys → ¬ Reach ns x x) → ∃ y, y ∈ ys ∧ ∀ z, z ∈ ys → ¬ Reach ns z y
  | [], h, _ => absurd rfl h
  | [y], _, h => ⟨y, List.mem_cons_self, fun z hz => by
    rcases List.mem_cons.mp hz with e | e
    · rw [e]
      exact h y List.mem_cons_self
    · cases e⟩
  | y :: y2 :: r, _, h => by
    obtain ⟨m, hm, mn⟩ := least_one (y2 :: r) (by simp) fun x hx => h x (List.mem_cons_of_mem _ hx)
    by_cases q : Reach ns y m
    · refine ⟨y, List.mem_cons_self, fun z hz => ?_⟩
      rcases List.mem_cons.mp hz with e | e
      · rw [e]
        exact h y List.mem_cons_self
      · exact fun p => mn z e (p.trans q)
    · refine ⟨m, List.mem_cons_of_mem _ hm, fun z hz => ?_⟩
      rcases List.mem_cons.mp hz with e | e
      · rw [e]
        exact q
      · exact mn z e
/-- where each of some is led by one of them, there is a ring -/
theorem ring_if {ns : List Nd} {ys : List Int} (h0 : ys ≠ []) (h : ∀ y, y ∈ ys → ∃ z, z ∈ ys ∧ Rel ns z y) : ∃ x, Reach ns x x := by
  refine Classical.byContradiction fun no => ?_
  obtain ⟨y, hy, mn⟩ := least_one (ns := ns) ys h0 fun x _ p => no ⟨x, p⟩
  obtain ⟨z, hz, r⟩ := h y hy
  exact mn z hz (.one r)
/-- one that is led by none of ys is on no ring, if all others are on none -/
theorem off_ring {ns : List Nd} {ys : List Int} {y : Int} (ho : ∀ x, x ∉ ys → ¬ Reach ns x x) (hn : ∀ z, z ∈ ys → ¬ Rel ns z y) : ¬ Reach ns y y := by
  intro h
  have key : ∃ z, Rel ns z y ∧ (z = y ∨ Reach ns y z) := by
    cases h with
    | one r => exact ⟨_, r, .inl rfl⟩
    | more a r => exact ⟨_, r, .inr a⟩
  obtain ⟨z, r, c⟩ := key
  have hz : z ∉ ys := fun m => hn z m r
  rcases c with e | c
  · subst e
    exact ho _ hz (.one r)
  · exact ho z hz (Reach.trans (.one r) c)
/-! ### ways -/
inductive Way (ns : List Nd) (x : Int) : List Int → Prop
  | one : Way ns x [x]
  | snoc {w : List Int} {u v : Int} : Way ns x (w ++ [u]) → Rel ns u v → Way ns x ((w ++ [u]) ++ [v])
theorem Way.form {ns : List Nd} {x : Int} {w : List Int} (h : Way ns x w) : ∃ r u, w = r ++ [u] := by
  cases h with
  | one => exact ⟨[], x, rfl⟩
  | snoc _ _ => exact ⟨_, _, rfl⟩
theorem Way.head {ns : List Nd} {x : Int} {w : List Int} (h : Way ns x w) : w[0]? = some x := by
  induction h with
  | one => rfl
  | @snoc w u v _ _ ih =>
    rw [List.getElem?_append_left (by simp)]
    exact ih
theorem Way.next {ns : List Nd} {x : Int} {w : List Int} (h : Way ns x w) : ∀ (i : Nat) (u v : Int), w[i]? = some u → w[i + 1]? = some v → Rel ns u v := by
  induction h with
  | one =>
    intro i u v _ h2
    simp at h2
  | @snoc w a b hw r ih =>
    intro i u v h1 h2
    by_cases hi : i + 1 < (w ++ [a]).length
    · rw [List.getElem?_append_left hi] at h2
      rw [List.getElem?_append_left (by omega)] at h1
      exact ih i u v h1 h2
    · have hlt := (List.getElem?_eq_some_iff.mp h2).1
      rw [List.length_append, List.length_append] at hlt
      rw [List.length_append] at hi
      simp only [List.length_singleton] at hlt hi
      have e : i = w.length := by omega
      subst e
      rw [List.getElem?_append_left (by simp)] at h1
      simp at h1 h2
      rw [← h1, ← h2]
      exact r
theorem Way.mem {ns : List Nd} {x : Int} {w : List Int} (hx : x ∈ ns.map Nd.num) (h : Way ns x w) : ∀ u, u ∈ w → u ∈ ns.map Nd.num := by
  induction h with
  | one =>
    intro u hu
    rw [List.mem_singleton.mp hu]
    exact hx
  | snoc _ r ih =>
    intro u hu
    rcases List.mem_append.mp hu with a | a
    · exact ih u a
    · rw [List.mem_singleton.mp a]
      exact r.right
/-- a ring: a way, and its last one leads the first -/
structure Ring (ns : List Nd) (x : Int) (w : List Int) : Prop where
  way : Way ns x w
  back : ∀ u, w[w.length - 1]? = some u → Rel ns u x
theorem Ring.two {ns : List Nd} {x : Int} {w : List Int} (h : Ring ns x w) : 2 ≤ w.length := by
  obtain ⟨r, u, rfl⟩ := h.way.form
  rw [List.length_append, List.length_singleton]
  cases r with
  | cons a r => simp
  | nil =>
    have e := h.way.head
    have e2 : u = x := by simpa using e
    subst e2
    exact absurd rfl (h.back u (by simp)).ne
/-- the one ahead of the i-th -/
def pre (n i : Nat) : Nat := if i = 0 then n - 1 else i - 1
theorem Ring.step {ns : List Nd} {x : Int} {w : List Int} (h : Ring ns x w) {i : Nat} {u v : Int} (h1 : w[pre w.length i]? = some u) (h2 : w[i]? = some v) : Rel ns u v := by
  unfold pre at h1
  by_cases e : i = 0
  · subst e
    rw [if_pos rfl] at h1
    have e2 := h.way.head
    rw [h2] at e2
    cases e2
    exact h.back u h1
  · rw [if_neg e] at h1
    exact h.way.next (i - 1) u v h1 (by rw [show i - 1 + 1 = i by omega]; exact h2)
/-! ### two in a row -/
structure Crossed (ns : List Nd) : Prop where
  snap : ∀ n, n ∈ ns → n.snap < n.num
  apart : ∀ n, n ∈ ns → ∀ m, m ∈ ns → n.num < m.num → ∀ k, k ∈ n.keys → k ∈ m.keys → n.num ≤ m.snap
theorem fw_cases {n m : Nd} (h : fw n m = true) : (n.num < m.num ∧ ∃ k, k ∈ n.keys ∧ k ∈ m.keys) ∨ n.num ≤ m.snap := by
  unfold fw at h
  rw [Bool.or_eq_true, Bool.and_eq_true, Bool.and_eq_true, List.any_eq_true] at h
  rcases h with ⟨a, k, hk, b⟩ | ⟨a, _⟩
  · exact .inl ⟨of_decide_eq_true a, k, hk, of_decide_eq_true b⟩
  · exact .inr (of_decide_eq_true a)
theorem leads_cases {n m : Nd} (h : leadsB n m = true) : n.num ≠ m.num ∧ (fw n m = true ∨ (n.snap < m.num ∧ readOf n m = true)) := by
  unfold leadsB fr at h
  rw [Bool.and_eq_true, Bool.or_eq_true, Bool.and_eq_true] at h
  refine ⟨of_decide_eq_true h.1, ?_⟩
  rcases h.2 with a | ⟨a, b⟩
  · exact .inl a
  · exact .inr ⟨of_decide_eq_true a, b⟩
theorem missB_of {n m : Nd} (a : n.num ≠ m.num) (b : n.snap < m.num) (c : readOf n m = true) : missB n m = true := by
  unfold missB
  rw [decide_eq_true a, decide_eq_true b, c]
  rfl
theorem two_in_a_row {ns : List Nd} (C : Crossed ns) {a b c : Nd} (ha : a ∈ ns) (hb : b ∈ ns) (hc : c ∈ ns) (h1 : leadsB a b = true) (h2 : leadsB b c = true) (l1 : c.num ≤ a.num) (l2 : c.num ≤ b.num) :
    missB a b = true ∧ missB b c = true ∧ c.num < b.num := by
  obtain ⟨n2, q2⟩ := leads_cases h2
  have hlt : c.num < b.num := by omega
  have sc := C.snap c hc
  have m2 : b.snap < c.num ∧ readOf b c = true := by
    rcases q2 with q | q
    · rcases fw_cases q with ⟨z, _⟩ | z <;> omega
    · exact q
  obtain ⟨n1, q1⟩ := leads_cases h1
  have m1 : a.snap < b.num ∧ readOf a b = true := by
    rcases q1 with q | q
    · rcases fw_cases q with ⟨z, k, k1, k2⟩ | z
      · have := C.apart a ha b hb z k k1 k2
        omega
      · omega
    · exact q
  exact ⟨missB_of n1 m1.1 m1.2, missB_of n2 m2.1 m2.2, hlt⟩
/-! ### pivots -/
abbrev T3 := Int × Int × Int
def onesP (ns : List Nd) (t : Nd) : List Int := (ns.filter fun n => decide (n.num ≠ t.num) && fr n t).map Nd.num
def threesP (ns : List Nd) (t : Nd) : List Int := (ns.filter fun n => decide (n.num < t.num) && fr t n).map Nd.num
def pivT (ns : List Nd) (t : Nd) : List T3 := (onesP ns t).flatMap fun o => ((threesP ns t).filter fun c => decide (c ≤ o)).map fun c => (o, t.num, c)
def onesL (ns : List Nd) (t : Nd) : List Int := (ns.filter fun n => missB n t).map Nd.num
def lpC (ns : List Nd) (t c : Nd) : List T3 := if (decide (c.num < t.num) && missB t c) = true then ((onesL ns t).filter fun o => decide (c.num ≤ o)).map fun o => (o, t.num, c.num) else []
def lpT (ns : List Nd) (t : Nd) : List T3 := ns.flatMap fun c => lpC ns t c
theorem ones_eq (ns : List Nd) (t : Nd) : onesP ns t = onesL ns t := by
  unfold onesP onesL
  congr 1
  refine List.filter_congr fun n _ => ?_
  unfold missB fr
  rw [Bool.and_assoc]
theorem flat_app_perm {α β : Type} (r : List β) (f g : β → List α) : ((r.flatMap f) ++ (r.flatMap g)).Perm (r.flatMap fun b => f b ++ g b) := by
  induction r with
  | nil => exact .refl _
  | cons b r ih =>
    simp only [List.flatMap_cons]
    have e : (f b ++ r.flatMap f ++ (g b ++ r.flatMap g)).Perm (f b ++ g b ++ (r.flatMap f ++ r.flatMap g)) := by
      rw [List.append_assoc, List.append_assoc]
      refine List.Perm.append_left _ ?_
      rw [← List.append_assoc, ← List.append_assoc]
      exact List.Perm.append_right _ List.perm_append_comm
    exact e.trans (List.Perm.append_left _ ih)
theorem flat_swap {α β γ : Type} (l : List α) (r : List β) (f : α → β → List γ) : (l.flatMap fun a => r.flatMap fun b => f a b).Perm (r.flatMap fun b => l.flatMap fun a => f a b) := by
  induction l with
  | nil =>
    have e : (r.flatMap fun _ => ([] : List γ)) = [] := by simp
    show ([] : List γ).Perm (r.flatMap fun _ => ([] : List γ))
    rw [e]
  | cons a l ih =>
    simp only [List.flatMap_cons]
    exact (List.Perm.append_left _ ih).trans (flat_app_perm r _ _)
theorem filter_flat {α β : Type} (l : List α) (p : α → Bool) (g : α → β) : (l.filter p).map g = l.flatMap fun x => if p x = true then [g x] else [] := by
  induction l with
  | nil => rfl
  | cons x r ih =>
    rw [List.flatMap_cons, ← ih, List.filter_cons]
    by_cases h : p x = true
    · rw [if_pos h, if_pos h]
      rfl
    · rw [if_neg h, if_neg h]
      rfl
theorem piv_perm (ns : List Nd) (t : Nd) : (pivT ns t).Perm (lpT ns t) := by
  have e1 : pivT ns t = (onesL ns t).flatMap fun o => ns.flatMap fun c => if (decide (c.num < t.num) && fr t c) = true then (if decide (c.num ≤ o) = true then [(o, t.num, c.num)] else []) else [] := by
    unfold pivT
    rw [ones_eq]
    congr 1
    funext o
    rw [filter_flat]
    unfold threesP
    rw [filter_flat, List.flatMap_assoc]
    congr 1
    funext c
    by_cases h : (decide (c.num < t.num) && fr t c) = true
    · rw [if_pos h, if_pos h]
      simp
    · rw [if_neg h, if_neg h]
      simp
  have e2 : lpT ns t = ns.flatMap fun c => (onesL ns t).flatMap fun o => if (decide (c.num < t.num) && fr t c) = true then (if decide (c.num ≤ o) = true then [(o, t.num, c.num)] else []) else [] := by
    unfold lpT
    congr 1
    funext c
    unfold lpC
    have em : (decide (c.num < t.num) && missB t c) = (decide (c.num < t.num) && fr t c) := by
      by_cases h : c.num < t.num
      · have : t.num ≠ c.num := by omega
        unfold missB fr
        rw [decide_eq_true this, Bool.true_and]
      · rw [decide_eq_false h, Bool.false_and, Bool.false_and]
    rw [em]
    by_cases h : (decide (c.num < t.num) && fr t c) = true
    · simp only [if_pos h]
      rw [filter_flat]
    · simp only [if_neg h]
      simp
  rw [e1, e2]
  exact flat_swap _ _ _
/-- all of them, gone along the numbers ys; by the nodes' own sequence -/
def pivF (ns : List Nd) (ys : List Int) : List T3 := ys.flatMap fun y => match nodeOf ns y with | some t => pivT ns t | none => []
def lpF (ns ts : List Nd) : List T3 := ts.flatMap fun t => lpT ns t
theorem flat_perm {α β : Type} {l : List α} (f g : α → List β) (h : ∀ x, x ∈ l → (f x).Perm (g x)) : (l.flatMap f).Perm (l.flatMap g) := by
  induction l with
  | nil => exact .refl _
  | cons x r ih =>
    rw [List.flatMap_cons, List.flatMap_cons]
    exact (h x List.mem_cons_self).append (ih fun y hy => h y (List.mem_cons_of_mem _ hy))
theorem piv_all {ns : List Nd} (nd : (ns.map Nd.num).Nodup) {ys : List Int} (hp : ys.Perm (ns.map Nd.num)) : (pivF ns ys).Perm (lpF ns ns) := by
  have a : (pivF ns ys).Perm (pivF ns (ns.map Nd.num)) := List.Perm.flatMap_right _ hp
  refine a.trans ?_
  unfold pivF lpF
  rw [List.flatMap_map]
  refine flat_perm _ _ fun t ht => ?_
  rw [nodeOf_mem nd ht]
  exact piv_perm ns t
theorem lp_mem {ns : List Nd} {a b c : Nd} (ha : a ∈ ns) (hb : b ∈ ns) (hc : c ∈ ns) (h1 : missB a b = true) (h2 : missB b c = true) (h3 : c.num < b.num) (h4 : c.num ≤ a.num) : (a.num, b.num, c.num) ∈ lpF ns ns := by
  refine List.mem_flatMap.mpr ⟨b, hb, List.mem_flatMap.mpr ⟨c, hc, ?_⟩⟩
  unfold lpC
  rw [decide_eq_true h3, h2, Bool.true_and, if_pos rfl]
  refine List.mem_map.mpr ⟨a.num, List.mem_filter.mpr ⟨List.mem_map.mpr ⟨a, List.mem_filter.mpr ⟨ha, h1⟩, rfl⟩, decide_eq_true h4⟩, rfl⟩
/-- the ring's least number and the two ahead of it -/
theorem ring_pivot {ns : List Nd} (nd : (ns.map Nd.num).Nodup) (C : Crossed ns) {x : Int} {w : List Int} (R : Ring ns x w) {i : Nat} {a b c : Int} (hc : w[i]? = some c) (hb : w[pre w.length i]? = some b) (ha : w[pre w.length (pre w.length i)]? = some a) (least : ∀ u, u ∈ w → c ≤ u) :
    (a, b, c) ∈ lpF ns ns := by
  obtain ⟨nb, hnb, nc, hnc, rfl, rfl, l2⟩ := R.step hb hc
  obtain ⟨na, hna, nb', hnb', rfl, eb, l1⟩ := R.step ha hb
  cases num_inj nd hnb' hnb eb
  have la := least _ (List.mem_of_getElem? ha)
  have lb := least _ (List.mem_of_getElem? hb)
  obtain ⟨m1, m2, lt⟩ := two_in_a_row C hna hnb hnc l1 l2 la lb
  exact lp_mem hna hnb hnc m1 m2 lt la
end K46

set_option Elab.async false
set_option linter.all false
set_option maxRecDepth 100000
set_option maxHeartbeats 4000000
/-! K46E: dictionaries of nodes; behind. -/
namespace K46
open PySem PySem.Spec PyProof.Rows L2
def KvOk (H : Hp) (kv : Key × V) (n : Nd) : Prop := kv.1 = Sum.inl n.num ∧ NdAt H kv.2 n
/-- the pairs of a dictionary of few nodes -/
structure NdsAt (H : Hp) (kvs : List (Key × V)) (ns : List Nd) : Prop where
  p : Paired (KvOk H) kvs ns
  nd : (ns.map Nd.num).Nodup
  few : ns.length ≤ 8
theorem paired_keys {H : Hp} : ∀ {kvs : List (Key × V)} {ns : List Nd}, Paired (KvOk H) kvs ns → kvs.map (·.1) = (ns.map Nd.num).map Sum.inl
  | _, _, .nil => rfl
  | _, _, .cons h t => by
    rw [List.map_cons, List.map_cons, List.map_cons, h.1, paired_keys t]
theorem paired_len {α β : Type} {F : α → β → Prop} : ∀ {l : List α} {r : List β}, Paired F l r → l.length = r.length
  | _, _, .nil => rfl
  | _, _, .cons _ t => congrArg Nat.succ (paired_len t)
theorem paired_imp {α β : Type} {F G : α → β → Prop} (k : ∀ a b, F a b → G a b) : ∀ {l : List α} {r : List β}, Paired F l r → Paired G l r
  | _, _, .nil => .nil
  | _, _, .cons h t => .cons (k _ _ h) (paired_imp k t)
theorem paired_get {α β : Type} {F : α → β → Prop} : ∀ {l : List α} {r : List β} {i : Nat} {a : α}, Paired F l r → l[i]? = some a → ∃ b, r[i]? = some b ∧ F a b
  | _, _, i, a, .nil, e => by simp at e
  | _, _, 0, a, .cons h _, e => by
    simp at e
    subst e
    exact ⟨_, rfl, h⟩
  | _, _, i + 1, a, .cons _ t, e => by
    obtain ⟨b, h1, h2⟩ := paired_get (i := i) (a := a) t (by simpa using e)
    exact ⟨b, by simpa using h1, h2⟩
theorem NdsAt.mono {H H' : Hp} {kvs : List (Key × V)} {ns : List Nd} (k : Tups H H') (h : NdsAt H kvs ns) : NdsAt H' kvs ns :=
  ⟨paired_imp (fun _ _ z => ⟨z.1, z.2.mono k⟩) h.p, h.nd, h.few⟩
theorem paired_valV {H : Hp} : ∀ {kvs : List (Key × V)} {ns : List Nd}, Paired (KvOk H) kvs ns → (ns.map Nd.num).Nodup → ∀ {n : Nd}, n ∈ ns → ∃ v, valV kvs (Sum.inl n.num : Key) = some v ∧ NdAt H v n
  | _, _, .nil, _, n, h => by cases h
  | kv :: l, m :: r, .cons h t, nd, n, hn => by
    rw [List.map_cons, List.nodup_cons] at nd
    rcases List.mem_cons.mp hn with e | e
    · subst e
      exact ⟨kv.2, valV_pos h.1, h.2⟩
    · obtain ⟨v, e1, e2⟩ := paired_valV t nd.2 e
      refine ⟨v, ?_, e2⟩
      rw [valV_neg, e1]
      rw [h.1]
      exact fun z => nd.1 (List.mem_map.mpr ⟨n, e, (Sum.inl.inj z).symm⟩)
theorem NdsAt.get {H : Hp} {kvs : List (Key × V)} {ns : List Nd} (h : NdsAt H kvs ns) {n : Nd} (hn : n ∈ ns) : ∃ v, valV kvs (Sum.inl n.num : Key) = some v ∧ NdAt H v n := paired_valV h.p h.nd hn
/-- d[n.num] -/
theorem dget_of {H : Hp} {a : Addr} {kvs : List (Key × V)} {v : V} {i : Int} (h : Rd H a (.dK kvs)) (e : valV kvs (Sum.inl i : Key) = some v) : DGet H a (.int i) (some v) := .inl ⟨kvs, Sum.inl i, h, rfl, e.symm⟩
theorem Same.rd {H H' : Hp} {a : Addr} {u : HO} (s : Same H H') (h : Rd H a u) : Rd H' a u := by
  rcases h with h | ⟨o, h⟩
  · exact .inl (s _ _ h)
  · exact .inr ⟨o, s _ _ h⟩
theorem few_perm {ys : List Int} {ns : List Nd} (hp : ys.Perm (ns.map Nd.num)) (hf : ns.length ≤ 8) : ys.length ≤ 8 := by
  rw [hp.length_eq, List.length_map]
  exact hf
theorem ints_get {xs : List Int} {i : Nat} {v : V} (h : (xs.map V.int)[i]? = some v) : ∃ x, xs[i]? = some x ∧ v = .int x := by
  rw [List.getElem?_map] at h
  cases q : xs[i]? with
  | none =>
    rw [q] at h
    cases h
  | some k =>
    rw [q] at h
    exact ⟨k, rfl, (Option.some.inj h).symm⟩
/-- what leads n's number's node -/
def ledB (ns : List Nd) (n : Nd) (y : Int) : Bool := match nodeOf ns y with | some m => leadsB n m | none => false
theorem filter_snoc {α : Type} (p : α → Bool) (l : List α) (x : α) : (l ++ [x]).filter p = if p x = true then l.filter p ++ [x] else l.filter p := by
  rw [List.filter_append, List.filter_cons, List.filter_nil]
  by_cases h : p x = true
  · rw [if_pos h, if_pos h]
  · rw [if_neg h, if_neg h, List.append_nil]
section
variable {P : Program} {w : World} {K : PySem.W.Frag} {mg : Str → Option Value} {base : Heap}
def spBehind : Sp := fun vs H Q _ => ∃ a kvs ns n, vs = [.ref a, .int n.num] ∧ Rd H a (.dK kvs) ∧ NdsAt H kvs ns ∧ n ∈ ns ∧
  ∀ (H' : Hp) (p : Addr) (xs : List Int), Same H H' → H p = none → H' p = some (.lst (xs.map V.int)) → (∀ x, x ∈ xs ↔ Rel ns n.num x) → xs.length ≤ 8 → Q (.ref p) H'
theorem scBeh : FnScope ["nodes", "number", "other"] ["nodes", "number"] (defScope sBehind) := ⟨rfl, rfl, rfl, by decide +kernel, rfl, by decide +kernel, by decide +kernel⟩
theorem ok_behind {f fL : Addr} {fd fdL : FuncData} (F : FnP K "behind" sBehind f fd) (GL : FnOk P w K mg base CX0 4 fL fdL ["one", "other"] (spNN leadsB)) (kL : PySem.W.keepIn K (.ref fL) = true) (bL : Binds K fdL ["one", "other"] []) (gL : mg "leads" = some (.ref fL)) (mS : mg "sorted" = none) :
    FnOk P w K mg base CX0 5 f fd ["nodes", "number"] spBehind := by
  refine F.ok scBeh (fun vs H Q E h => ?_) (fun cdv A outer s H vs Q E hr h => ?_)
  · obtain ⟨a, kvs, ns, n, rfl, _⟩ := h
    rfl
  · obtain ⟨a, kvs, ns, n, rfl, hd, hN, hn, q⟩ := h
    have hu := hu_of hr
    refine ⟨_, pss_one (ps_ret (pe_lc (own := [("other", 2)]) (g := gName 2) (te := tVar 2) (tt := tB (tCall (spNN leadsB) [] E0 (tCons (tDGet (tVar 0) (tVar 1)) (tCons (tDGet (tVar 0) (tVar 2)) tNil)))) rfl scBeh.nd
        (pi_list (pe_callB (call_sortedDI rfl) (by rfl) mS (by decide +kernel) (pa_cons (pv 0) pa_nil))) (blkOk_by (N := ["nodes", "number", "other"]) (sc := defScope sBehind) (by decide +kernel))
        (fun _ _ _ _ _ => pg_name (i := 2) scBeh.nd rfl (Or.inl rfl))
        (fun _ _ _ _ _ => pts_one (pt_val (pe_call GL hr (by rfl) gL kL bL .nil pass0 (pa_cons (pe_dget hu (pv 0) (pv 1) (fun _ _ => rfl)) (pa_cons (pe_dget hu (pv 0) (pv 2) (fun _ _ => rfl)) pa_nil)))))
        (fun _ _ _ _ _ => pv 2))), ?_⟩
    refine ⟨_, rfl, a, kvs, ns.map Nd.num, rfl, hd, paired_keys hN.p, ?_, fun ys p hp hs np => ?_⟩
    · have := hN.few
      rw [List.length_map]
      omega
    have s1 : Same H (upd H p (.lst (ys.map V.int))) := same_upd np
    refine ⟨p, rfl, ⟨_, SqL.of upd_same⟩, fun D hD => ?_⟩
    have nDp : p ≠ D := fun e => by
      rw [← e, upd_same] at hD
      cases hD
    have s2 := s1.trans (same_upd (o := .lst []) hD)
    refine walk_list (K := K) (a := p) (xs := ys.map V.int) (fun i H' => Same H H' ∧ H' p = some (.lst (ys.map V.int)) ∧ H' D = some (.lst (((ys.take i).filter (ledB ns n)).map V.int)))
      ⟨s2, by rw [upd_ne nDp, upd_same], upd_same⟩ (fun i H' _ pv => SqL.of pv.2.1) (fun i x H' hx pv => ?_) (fun H' pv => ?_)
    · obtain ⟨y, hy, rfl⟩ := ints_get hx
      have hym : y ∈ ns.map Nd.num := hp.mem_iff.mp (List.mem_of_getElem? hy)
      obtain ⟨m, hm, rfl⟩ := node_there hym
      obtain ⟨v1, e1, h1⟩ := hN.get hn
      obtain ⟨v2, e2, h2⟩ := hN.get hm
      have tp := Same.tups pv.1
      refine ⟨rfl, _, rfl, _, rfl, a, v1, rfl, dget_of (Same.rd pv.1 hd) e1, _, rfl, _, rfl, a, v2, rfl, dget_of (Same.rd pv.1 hd) e2, v1, v2, n, m, rfl, h1.mono tp, h2.mono tp, fun H2 sm2 => ⟨_, rfl, ?_⟩⟩
      have eb : ledB ns n m.num = leadsB n m := by
        unfold ledB
        rw [nodeOf_mem hN.nd hm]
      have ef : (ys.take (i + 1)).filter (ledB ns n) = if leadsB n m = true then (ys.take i).filter (ledB ns n) ++ [m.num] else (ys.take i).filter (ledB ns n) := by
        rw [take_snoc hy, filter_snoc, eb]
      cases z : leadsB n m with
      | true =>
        refine iteT ⟨_, rfl, _, sm2 _ _ pv.2.2, ?_, fun c o e => ?_, ?_, ?_⟩
        · have l1 := few_perm hp hN.few
          have l2 := List.length_filter_le (ledB ns n) (ys.take i)
          rw [List.length_map]
          rw [List.length_take] at l2
          exact small1000 (by omega)
        · have cD : c ≠ D := ne_of_none (s1 _ _ e) hD
          rw [upd_ne cD]
          exact sm2 _ _ (pv.1 _ _ e)
        · rw [upd_ne nDp]
          exact sm2 _ _ pv.2.1
        · rw [upd_same, ef, z, if_pos rfl]
          simp
      | false =>
        refine iteF ⟨pv.1.trans sm2, sm2 _ _ pv.2.1, ?_⟩
        rw [ef, z, if_neg Bool.false_ne_true]
        exact sm2 _ _ pv.2.2
    · have e := pv.2.2
      rw [List.length_map, List.take_length] at e
      have nD : H D = none := s1.free hD
      refine q H' D _ pv.1 nD e (fun x => ?_) ?_
      · rw [List.mem_filter, hp.mem_iff]
        constructor
        · rintro ⟨hx, hb⟩
          obtain ⟨m, hm, rfl⟩ := node_there hx
          unfold ledB at hb
          rw [nodeOf_mem hN.nd hm] at hb
          exact ⟨n, hn, m, hm, rfl, rfl, hb⟩
        · rintro ⟨n', hn', m, hm, en, rfl, hb⟩
          cases num_inj hN.nd hn' hn en
          refine ⟨List.mem_map.mpr ⟨m, hm, rfl⟩, ?_⟩
          unfold ledB
          rw [nodeOf_mem hN.nd hm]
          exact hb
      · have l1 := few_perm hp hN.few
        have l2 := List.length_filter_le (ledB ns n) ys
        omega
end
end K46

set_option Elab.async false
set_option linter.all false
set_option maxRecDepth 100000
set_option maxHeartbeats 4000000
/-! K46N: the search of ring_through, in plain lists. -/
namespace K46
open PySem PySem.Spec PyProof.Rows L2
theorem nodup_sub_len {α : Type} [DecidableEq α] : ∀ {l r : List α}, l.Nodup → (∀ x, x ∈ l → x ∈ r) → l.length ≤ r.length
  | [], r, _, _ => Nat.zero_le _
  | x :: l, r, nd, h => by
    rw [List.nodup_cons] at nd
    have hx : x ∈ r := h x List.mem_cons_self
    have ih := nodup_sub_len (l := l) (r := r.erase x) nd.2 fun y hy => by
      have ne : y ≠ x := fun e => nd.1 (e ▸ hy)
      exact (List.mem_erase_of_ne ne).mpr (h y (List.mem_cons_of_mem _ hy))
    have pos : 0 < r.length := List.length_pos_of_mem hx
    rw [List.length_erase_of_mem hx] at ih
    rw [List.length_cons]
    omega
def wayD (w : List Int) : PyData := .tuple (w.map PyData.int)
/-- between two turns of the loop over the ways ws: those from the i-th on are still to be led on -/
structure RM (ns : List Nd) (x : Int) (ws : List (List Int)) (n0 : Nat) (i : Nat) (seen : List Int) (ls : List (List Int)) : Prop where
  hx : x ∈ seen
  nd : seen.Nodup
  sub : ∀ s, s ∈ seen → s ∈ ns.map Nd.num
  way : ∀ w, w ∈ ls → Way ns x w ∧ w.length ≤ seen.length
  cl : ∀ s, s ∈ seen → (∃ (j : Nat) (w : List Int), i ≤ j ∧ ws[j]? = some w ∧ w.getLast? = some s) ∨ (∃ w, w ∈ ls ∧ w.getLast? = some s) ∨ ∀ y, Rel ns s y → y ≠ x ∧ y ∈ seen
  grow : ls.length + n0 ≤ seen.length
theorem RM.len {ns : List Nd} {x : Int} {ws : List (List Int)} {n0 i : Nat} {seen : List Int} {ls : List (List Int)} (h : RM ns x ws n0 i seen ls) : seen.length ≤ ns.length := by
  have e := nodup_sub_len h.nd h.sub
  rw [List.length_map] at e
  exact e
theorem RM.start {ns : List Nd} {x : Int} (hx : x ∈ ns.map Nd.num) : RM ns x [] 0 0 [x] [[x]] where
  hx := List.mem_cons_self
  nd := by simp
  sub := fun s hs => by
    rw [List.mem_singleton.mp hs]
    exact hx
  way := fun w hw => by
    rw [List.mem_singleton.mp hw]
    exact ⟨.one, Nat.le_refl _⟩
  cl := fun s hs => .inr (.inl ⟨[x], List.mem_cons_self, by rw [List.mem_singleton.mp hs]; rfl⟩)
  grow := Nat.le_refl _
/-- the loop over ways begins anew -/
theorem RM.again {ns : List Nd} {x : Int} {ws ls : List (List Int)} {n0 : Nat} {seen : List Int} (h : RM ns x ws n0 ws.length seen ls) : RM ns x ls seen.length 0 seen [] where
  hx := h.hx
  nd := h.nd
  sub := h.sub
  way := fun w hw => by cases hw
  cl := fun s hs => by
    rcases h.cl s hs with ⟨j, w, hj, hw, _⟩ | ⟨w, hw, e⟩ | q
    · have := (List.getElem?_eq_some_iff.mp hw).1
      omega
    · obtain ⟨j, hj, e2⟩ := List.getElem_of_mem hw
      exact .inl ⟨j, w, Nat.zero_le _, by rw [List.getElem?_eq_getElem hj, e2], e⟩
    · exact .inr (.inr q)
  grow := by simp
theorem RM.add {ns : List Nd} {x : Int} {ws ls : List (List Int)} {n0 i : Nat} {seen r : List Int} {u y : Int} (h : RM ns x ws n0 i seen ls) (hw : Way ns x (r ++ [u])) (hl : (r ++ [u]).length ≤ seen.length) (hr : Rel ns u y) (hy : y ∉ seen) :
    RM ns x ws n0 i (seen ++ [y]) (ls ++ [(r ++ [u]) ++ [y]]) where
  hx := List.mem_append_left _ h.hx
  nd := by
    rw [List.nodup_append]
    refine ⟨h.nd, by simp, fun a ha b hb e => ?_⟩
    rw [List.mem_singleton.mp hb] at e
    exact hy (e ▸ ha)
  sub := fun s hs => by
    rcases List.mem_append.mp hs with a | a
    · exact h.sub s a
    · rw [List.mem_singleton.mp a]
      exact hr.right
  way := fun w hw' => by
    rw [List.length_append, List.length_singleton]
    rcases List.mem_append.mp hw' with a | a
    · have := h.way w a
      exact ⟨this.1, by omega⟩
    · rw [List.mem_singleton.mp a]
      refine ⟨.snoc hw hr, ?_⟩
      rw [List.length_append, List.length_singleton]
      omega
  cl := fun s hs => by
    rcases List.mem_append.mp hs with a | a
    · rcases h.cl s a with q | ⟨w, hw, e⟩ | q
      · exact .inl q
      · exact .inr (.inl ⟨w, List.mem_append_left _ hw, e⟩)
      · exact .inr (.inr fun z hz => ⟨(q z hz).1, List.mem_append_left _ (q z hz).2⟩)
    · rw [List.mem_singleton.mp a]
      exact .inr (.inl ⟨_, List.mem_append_right _ List.mem_cons_self, by simp⟩)
  grow := by
    have := h.grow
    rw [List.length_append, List.length_append, List.length_singleton, List.length_singleton]
    omega
/-- the i-th way is led on -/
theorem RM.next {ns : List Nd} {x : Int} {ws ls : List (List Int)} {n0 i : Nat} {seen r : List Int} {u : Int} (h : RM ns x ws n0 i seen ls) (hw : ws[i]? = some (r ++ [u])) (hd : ∀ y, Rel ns u y → y ≠ x ∧ y ∈ seen) : RM ns x ws n0 (i + 1) seen ls where
  hx := h.hx
  nd := h.nd
  sub := h.sub
  way := h.way
  cl := fun s hs => by
    rcases h.cl s hs with ⟨j, w, hj, hw', e⟩ | q
    · by_cases hji : j = i
      · subst hji
        rw [hw] at hw'
        cases hw'
        have eu : u = s := by simpa using e
        subst eu
        exact .inr (.inr hd)
      · exact .inl ⟨j, w, by omega, hw', e⟩
    · exact .inr q
  grow := h.grow
/-- nothing is left to be led on: there is no ring through x -/
theorem RM.done {ns : List Nd} {x : Int} {n0 : Nat} {seen : List Int} (h : RM ns x [] n0 0 seen []) : ¬ Reach ns x x := by
  refine no_reach h.hx fun s hs y hy => ?_
  rcases h.cl s hs with ⟨j, w, _, hw, _⟩ | ⟨w, hw, _⟩ | q
  · simp at hw
  · cases hw
  · exact q y hy
/-! ### data of ways -/
theorem lay_ints : ∀ w : List Int, PyData.canLayAll0 (w.map PyData.int) = true
  | [] => by simp [PyData.canLayAll0]
  | x :: r => by simp [PyData.canLayAll0, PyData.canLay0, lay_ints r]
theorem dep_ints : ∀ w : List Int, PyData.depthAll (w.map PyData.int) = 0
  | [] => by simp [PyData.depthAll]
  | x :: r => by simp [PyData.depthAll, PyData.depth, dep_ints r]
theorem lay_ways : ∀ ws : List (List Int), PyData.canLayAll0 (ws.map wayD) = true
  | [] => by simp [PyData.canLayAll0]
  | w :: r => by simp [PyData.canLayAll0, wayD, PyData.canLay0, lay_ints w, lay_ways r]
theorem dep_ways : ∀ ws : List (List Int), PyData.depthAll (ws.map wayD) ≤ 1
  | [] => by simp [PyData.depthAll]
  | w :: r => by
    have := dep_ways r
    simp only [List.map_cons, PyData.depthAll, wayD, PyData.depth, dep_ints w]
    omega
theorem shaped_ways (ws : List (List Int)) : SeqAt.shaped (.list (ws.map wayD)) = true := by
  have := dep_ways ws
  unfold SeqAt.shaped
  rw [Bool.and_eq_true]
  refine ⟨by simp [PyData.canLay0, lay_ways ws], decide_eq_true ?_⟩
  simp only [PyData.depth]
  omega
theorem shaped_ints (w : List Int) : SeqAt.shaped (.list (w.map PyData.int)) = true := by
  unfold SeqAt.shaped
  rw [Bool.and_eq_true]
  refine ⟨by simp [PyData.canLay0, lay_ints w], decide_eq_true ?_⟩
  simp only [PyData.depth, dep_ints w]
  omega
theorem shaped_nil : SeqAt.shaped (.list []) = true := shaped_ints []
theorem eqv_nil (ds : List PyData) : PyData.eqv (.list ds) (.list []) = ds.isEmpty := by
  cases ds <;> simp [PyData.eqv, PyData.eqvAll]
end K46

set_option Elab.async false
set_option linter.all false
set_option maxRecDepth 100000
set_option maxHeartbeats 4000000
/-! K46O: tuples of which it is known that they have no dict of their own (a method of theirs is called); ways. -/
namespace K46
open PySem PySem.Spec PyProof.Rows L2
/-- what is known as a whole stays -/
def Frz (H H' : Hp) : Prop := ∀ b o u, H b = some (.frz o u) → H' b = some (.frz o u)
theorem Frz.trans {H H1 H2 : Hp} (x : Frz H H1) (y : Frz H1 H2) : Frz H H2 := fun b o u e => y b o u (x b o u e)
theorem Same.frz {H H' : Hp} (s : Same H H') : Frz H H' := fun b o u e => s b _ e
theorem frz_upd_lst {H : Hp} {a : Addr} {o : HO} {xs : List V} (h : H a = some (.lst xs)) : Frz H (upd H a o) := fun b ob u e => by
  rw [upd_ne (fun z => by rw [z, h] at e; cases e)]
  exact e
/-- a way stands as v, with no dict of its own -/
def WT (H : Hp) (v : V) (w : List Int) : Prop := ∃ a ob, v = .ref a ∧ H a = some (.frz ob (.tup (w.map V.int))) ∧ ob.dict = none
abbrev WTs (H : Hp) : List V → List (List Int) → Prop := Paired (WT H)
theorem WT.mono {H H' : Hp} {v : V} {w : List Int} (k : Frz H H') (h : WT H v w) : WT H' v w := by
  obtain ⟨a, ob, e, h1, h2⟩ := h
  exact ⟨a, ob, e, k _ _ _ h1, h2⟩
theorem WTs.mono {H H' : Hp} (k : Frz H H') : ∀ {vs : List V} {ws : List (List Int)}, WTs H vs ws → WTs H' vs ws
  | _, _, .nil => .nil
  | _, _, .cons h t => .cons (h.mono k) (WTs.mono k t)
theorem WTs.len {H : Hp} : ∀ {vs : List V} {ws : List (List Int)}, WTs H vs ws → vs.length = ws.length
  | _, _, .nil => rfl
  | _, _, .cons h t => congrArg Nat.succ (WTs.len t)
theorem WTs.append {H : Hp} : ∀ {vs vs' : List V} {ws ws' : List (List Int)}, WTs H vs ws → WTs H vs' ws' → WTs H (vs ++ vs') (ws ++ ws')
  | _, _, _, _, .nil, b => b
  | _, _, _, _, .cons h t, b => .cons h (WTs.append t b)
theorem ints_dp {K : PySem.W.Frag} {H : Hp} : ∀ w : List Int, DpAll K H (w.map V.int) (w.map PyData.int)
  | [] => .nil
  | x :: r => .cons (.int x) (ints_dp r)
theorem WTs.dp {K : PySem.W.Frag} {H : Hp} : ∀ {vs : List V} {ws : List (List Int)}, WTs H vs ws → DpAll K H vs (ws.map wayD)
  | _, _, .nil => .nil
  | _, _, .cons h t => by
    obtain ⟨a, ob, rfl, h1, _⟩ := h
    exact .cons (.tup (.inl (.inr ⟨ob, h1⟩)) (ints_dp _)) (WTs.dp t)
theorem WTs.way_at {H : Hp} : ∀ {vs : List V} {ws : List (List Int)}, WTs H vs ws → ∀ {i : Nat} {v : V}, vs[i]? = some v → ∃ w a ob, ws[i]? = some w ∧ v = .ref a ∧ H a = some (.frz ob (.tup (w.map V.int))) ∧ ob.dict = none
  | _, _, .nil, i, v, e => by simp at e
  | _, _, .cons (b := w) h t, 0, v, e => by
    obtain ⟨a, ob, rfl, h1, h2⟩ := h
    exact ⟨w, a, ob, rfl, (Option.some.inj e).symm, h1, h2⟩
  | _, _, .cons h t, i + 1, v, e => by
    obtain ⟨w, a, ob, h1, h2⟩ := WTs.way_at t (i := i) (v := v) (by simpa using e)
    exact ⟨w, a, ob, by simpa using h1, h2⟩
theorem SqT.frz {K : PySem.W.Frag} {H : Hp} {a : Addr} {ob : Obj} {xs : List V} (h : H a = some (.frz ob (.tup xs))) : SqT K H a xs := .inl (.inr ⟨ob, h⟩)
section
variable {X : Cx} {e : Expr} {es : List Expr} {t : TA} {pos : Pos}
def tTupZ (t : TA) : TE := fun σ H Q => t σ H fun xs H1 => xs.length ≤ sizeLine ∧ ∀ p ob, H1 p = none → ob.dict = none → Q (.ref p) (upd H1 p (.frz ob (.tup xs)))
theorem pe_tupZ {x1} (h : PA X es t) : PE X (.Tuple es x1 pos) (tTupZ t) := by
  refine ⟨fun pins s σ H Q I hq => ?_⟩
  refine wpAny_Tuple_spliced (thn (h.run pos pins s σ H _ I hq) fun us s1 ⟨xs, H1, I1, r, z, q⟩ => ⟨by rw [← r.length]; exact z, ?_⟩)
  have hf : H1 s1.heap.objs.size = none := I1.hok.fresh (Nat.le_refl _)
  have hget : (s1.heap.push { cls := .type "tuple", data := .seq us.toArray }).get? s1.heap.objs.size = some { cls := .type "tuple", data := .seq us.toArray } := Heap.get?_push_size _ rfl
  refine ⟨.ref s1.heap.objs.size, upd H1 s1.heap.objs.size (.frz { cls := .type "tuple", data := .seq us.toArray } (.tup xs)), I1.laid (t' := s1.toks) (fun b u e => Heap.get?_push_of_some _ e) (Nat.le_refl _) ?_, rfl, q _ _ hf rfl⟩
  exact ⟨hget, z, us, r, ⟨_, hget, rfl, _, rfl⟩⟩
/-- t + u, both with items -/
def rCatZ (K : PySem.W.Frag) : R2 := fun x y H Q => ∃ a b xs ys, x = .ref a ∧ y = .ref b ∧ SqT K H a xs ∧ SqT K H b ys ∧ xs ≠ [] ∧ ys ≠ [] ∧ xs.length + ys.length ≤ sizeLine ∧
  ∀ p ob, H p = none → ob.dict = none → Q (.ref p) (upd H p (.frz ob (.tup (xs ++ ys))))
theorem op_catZ : OpR X (binaryOp .Add) (rCatZ X.K) := by
  intro pins s σ H x y v u Q I rx ry h
  obtain ⟨a, b, xs, ys, rfl, rfl, ha, hb, hx, hy, hz, q⟩ := h
  cases rx
  cases ry
  obtain ⟨its, r1, p1, _⟩ := I.tuple ha
  obtain ⟨its2, r2, p2, _⟩ := I.tuple hb
  refine HT.cat_tup p1 p2 (fun z => hx (r1.nil_iff.mp z)) (fun z => absurd (r2.nil_iff.mp z) hy) (fun z => ?_) (by rw [← r1.length, ← r2.length]; exact hz)
  have hget : (s.heap.push { cls := .type "tuple", data := .seq (its ++ its2).toArray }).get? s.heap.objs.size = some { cls := .type "tuple", data := .seq (its ++ its2).toArray } := Heap.get?_push_size _ rfl
  refine ⟨.ref s.heap.objs.size, _, I.laid (t' := s.toks) (o := .frz { cls := .type "tuple", data := .seq (its ++ its2).toArray } (.tup (xs ++ ys))) (fun b ob q => Heap.get?_push_of_some _ q) (Nat.le_refl _) ?_, rfl, q _ _ (I.hok.fresh (Nat.le_refl _)) rfl⟩
  exact ⟨hget, by rw [List.length_append]; exact hz, _, r1.append r2, ⟨_, hget, rfl, _, rfl⟩⟩
variable {o : Expr} {to : TE} {name : Str} {apos cpos : Pos} {id : String} {r : V → List V → Hp → VK → Prop}
/-- t.m(e, ..), t a tuple that is known as a whole -/
def tBMT (r : V → List V → Hp → VK → Prop) (to : TE) (t : TA) : TE := fun σ H Q => to σ H fun x H1 => (∃ p ob xs, x = .ref p ∧ H1 p = some (.frz ob (.tup xs)) ∧ ob.dict = none) ∧ t σ H1 fun xs H2 => r x xs H2 Q
theorem pe_bmT (pa : PlainAttrs "tuple") (slot : Slot "tuple" name id) (hty : typeOf (.builtin id) = pure (.type "method_descriptor")) (hm : MtR X id r) (ho : PE X o to) (ha : PA X (e :: es) t)
    (hbase : attributeBase o name X.env (eval o X.env) = eval o X.env := by rfl)
    (hfew : ((backTo cpos (starEach (e :: es) X.env)).all (fun x => !x.1) && (backToKw cpos (keywordEach [] X.env)).all (fun x => x.1.isSome)
      && decide ((e :: es).length + ([] : List Keyword).length + (if ([] : List Keyword).isEmpty then 0 else 1) < 30)) = true := by rfl)
    (hline : (apos.endLine == cpos.line) = true := by rfl) (hs : starEach (e :: es) X.env = (false, eval e X.env) :: starEach es X.env := by rfl) (hplain : (backTo cpos (starEach es X.env)).any (·.1) = false := by rfl) :
    PE X (.Call (.Attribute o name apos) (e :: es) [] cpos) (tBMT r to t) := by
  refine ⟨fun pins s σ H Q I h => ?_⟩
  refine wpAny_Call_method_late hbase hfew hline rfl (thn (ho.run pins s σ H _ I h) fun v s1 ⟨x, H1, I1, r1, ty, q1⟩ => ?_)
  obtain ⟨p, ob, xs, rfl, hp, hn⟩ := ty
  cases r1
  obtain ⟨hget, _, its, _, o2, ho2, hc2, _⟩ := I1.hok p _ hp
  rw [hget] at ho2
  cases (Option.some.inj ho2)
  refine ⟨"tuple", id, pa, slot, hty, ⟨ob, hget, hc2⟩, fun a e => ?_, ?_⟩
  · cases e
    exact ⟨ob, hget, hn⟩
  have hA := ha.run cpos pins s1 σ H1 _ I1 q1
  rw [hs] at hA ⊢
  refine Calls.callWith_builtin (by show (false || (backTo cpos (starEach es X.env)).any (·.1)) = false; rw [hplain] <;> rfl) (Calls.evalArgs_plain ?_)
  exact thn hA fun us s2 ⟨vs, H2, I2, r2, q2⟩ => hm pins s2 σ H2 (.ref p) vs _ us Q I2 rfl r2 q2
end
end K46

set_option Elab.async false
set_option linter.all false
set_option maxRecDepth 100000
set_option maxHeartbeats 4000000
/-! K46F: ring_through. -/
namespace K46
open PySem PySem.Spec PyProof.Rows L2
/-- what the three lists hold -/
structure RS (H0 H : Hp) (W S L : Addr) (vs : List V) (ws : List (List Int)) (seen : List Int) (lv : List V) (ls : List (List Int)) : Prop where
  same : Same H0 H
  w : H W = some (.lst vs)
  wd : WTs H vs ws
  s : H S = some (.lst (seen.map V.int))
  l : H L = some (.lst lv)
  ld : WTs H lv ls
theorem RS.keep {H0 H H' : Hp} {W S L : Addr} {vs lv : List V} {ws ls : List (List Int)} {seen : List Int} (h : RS H0 H W S L vs ws seen lv ls) (k : Same H H') : RS H0 H' W S L vs ws seen lv ls :=
  ⟨h.same.trans k, k _ _ h.w, h.wd.mono (Same.frz k), k _ _ h.s, k _ _ h.l, h.ld.mono (Same.frz k)⟩
theorem tups_upd_lst {H : Hp} {a : Addr} {o : HO} {xs : List V} (h : H a = some (.lst xs)) : Tups H (upd H a o) := fun b ys e => by
  rw [upd_ne (fun z => by rw [z, h] at e; cases e)]
  exact e
theorem same_upd0 {H0 H : Hp} {a : Addr} {o : HO} (s : Same H0 H) (n : H0 a = none) : Same H0 (upd H a o) := fun b x e => by
  rw [upd_ne (ne_of_none e n)]
  exact s _ _ e
theorem notIn_ints (y : Int) : ∀ xs : List Int, inV (.int y) (xs.map V.int) = decide (y ∈ xs)
  | [] => by simp [inV]
  | x :: r => by
    have ih := notIn_ints y r
    have e : inV (.int y) ((x :: r).map V.int) = (eqV (.int x) (.int y) || inV (.int y) (r.map V.int)) := rfl
    have e2 : eqV (.int x) (.int y) = decide (x = y) := by
      show (x == y) = decide (x = y)
      by_cases z : x = y
      · simp [z]
      · rw [decide_eq_false z]
        exact beq_eq_false_iff_ne.mpr z
    rw [e, ih, e2]
    by_cases z : x = y
    · simp [z]
    · have z' : ¬ y = x := fun u => z u.symm
      simp [z, z', List.mem_cons]
theorem flat_ints (xs : List Int) : (xs.map V.int).all flatV = true := by
  rw [List.all_eq_true]
  intro x hx
  obtain ⟨k, _, rfl⟩ := List.mem_map.mp hx
  rfl
def lenAt (σ : L2.St) (H : Hp) (i : Nat) : Nat := match σ[i]? with
  | some (some (.ref a)) => (match H a with | some (.lst l) => l.length | _ => 0)
  | _ => 0
def muR (σ : L2.St) (H : Hp) : Nat := 2 * (8 - lenAt σ H 3) + (if lenAt σ H 2 = 0 then 0 else 1)
theorem lenAt_of {σ : L2.St} {H : Hp} {i : Nat} {a : Addr} {l : List V} (h : σ[i]? = some (some (.ref a))) (e : H a = some (.lst l)) : lenAt σ H i = l.length := by
  unfold lenAt
  rw [h]
  simp only [e]
section
variable {P : Program} {w : World} {K : PySem.W.Frag} {mg : Str → Option Value} {base : Heap}
def spRing : Sp := fun vs H Q _ => ∃ a kvs ns n, vs = [.ref a, .int n.num] ∧ Rd H a (.dK kvs) ∧ NdsAt H kvs ns ∧ n ∈ ns ∧
  (∀ H', Same H H' → ¬ Reach ns n.num n.num → Q .non H') ∧
  ∀ (H' : Hp) (p : Addr) (ob : Obj) (r : List Int), Same H H' → H' p = some (.frz ob (.tup (r.map V.int))) → ob.dict = none → Ring ns n.num r → r.length ≤ 8 → Q (.ref p) H'
theorem scRing : FnScope ["nodes", "number", "ways", "seen", "longer", "way", "other"] ["nodes", "number"] (defScope sRing) := ⟨rfl, rfl, rfl, by decide +kernel, rfl, by decide +kernel, by decide +kernel⟩
theorem ok_ring {f fB : Addr} {fd fdB : FuncData} (F : FnP K "ring_through" sRing f fd) (GB : FnOk P w K mg base CX0 5 fB fdB ["nodes", "number"] spBehind) (kB : PySem.W.keepIn K (.ref fB) = true) (bB : Binds K fdB ["nodes", "number"] []) (gB : mg "behind" = some (.ref fB)) :
    FnOk P w K mg base CX0 6 f fd ["nodes", "number"] spRing := by
  refine okN F scRing (fun vs H Q E h => ?_) (fun cdv A outer s H vs Q E hr h => ?_)
  · obtain ⟨a, kvs, ns, n, rfl, _⟩ := h
    rfl
  · obtain ⟨a, kvs, ns, n, rfl, hd, hN, hn, qN, qR⟩ := h
    refine ⟨_, pss_cons (ps_set (i := 2) scRing.nd rfl (.inl rfl) (pe_lst (pa_cons (pe_tupZ (pa_cons (pv 1) pa_nil)) pa_nil)))
      (pss_cons (ps_set (i := 3) scRing.nd rfl (.inl rfl) (pe_lst (pa_cons (pv 1) pa_nil)))
      (pss_cons (ps_while PassesOwn.never (pt_cmpR (op_neD hr.units) (pv 2) (pe_lst pa_nil) (nomark _))
        (pss_cons (ps_set (i := 4) scRing.nd rfl (.inl rfl) (pe_lst pa_nil))
        (pss_cons (ps_for PassesOwn.never rfl (pi_list (pv 2)) (pg_name (i := 5) scRing.nd rfl (.inl rfl))
          (pss_one (ps_for PassesOwn.never rfl (pi_list (pe_call GB hr (by rfl) gB kB bB .nil pass0 (pa_cons (pv 0) (pa_cons (pe_ix ix_tup (pv 5) (pe_un un_neg pe_int) (fun _ _ => rfl)) pa_nil)))) (pg_name (i := 6) scRing.nd rfl (.inl rfl))
            (pss_cons (ps_if (pt_cmpR op_eq (pv 6) (pv 1) (nomark _)) (pss_one (ps_ret (pv 5))) pss_nil)
            (pss_one (ps_if (pt_cmpR op_notIn_seq (pv 6) (pv 3) (by rfl))
              (pss_cons (ps_expr (pe_bm PySem.F.plainAttrs_list PySem.F.slot_list_append PySem.F.type_list_append mt_append (pv 3) (pa_cons (pv 6) pa_nil)))
              (pss_one (ps_expr (pe_bm PySem.F.plainAttrs_list PySem.F.slot_list_append PySem.F.type_list_append mt_append (pv 4) (pa_cons (pe_op op_catZ (pv 5) (pe_tup (pa_cons (pv 6) pa_nil))) pa_nil))))) pss_nil))))))
        (pss_one (ps_set (i := 2) scRing.nd rfl (.inl rfl) (pv 4))))))
      (pss_one (ps_ret pe_non)))), ?_⟩
    have hx : n.num ∈ ns.map Nd.num := List.mem_map.mpr ⟨n, hn, rfl⟩
    have few := hN.few
    -- ways = [(number,)]
    refine ⟨_, rfl, (by show 1 ≤ sizeLine; decide), fun t ot nt no => ⟨(by show 1 ≤ sizeLine; decide), fun W0 nW0 => ?_⟩⟩
    have s1 : Same H (upd H t (.frz ot (.tup [.int n.num]))) := same_upd nt
    have nWt : t ≠ W0 := fun e => by
      rw [← e, upd_same] at nW0
      cases nW0
    have s2 := s1.trans (same_upd (o := .lst [.ref t]) nW0)
    -- seen = [number]
    refine ⟨_, rfl, (by show 1 ≤ sizeLine; decide), fun S0 nS0 => ?_⟩
    have nSW : W0 ≠ S0 := fun e => by
      rw [← e, upd_same] at nS0
      cases nS0
    have nSt : t ≠ S0 := fun e => by
      rw [← e, upd_ne nWt, upd_same] at nS0
      cases nS0
    have s3 := s2.trans (same_upd (o := .lst [.int n.num]) nS0)
    -- while ways != []
    refine while_by (fun σ H1 => ∃ W S vs ws seen o4 o5 o6, σ = [some (.ref a), some (.int n.num), some (.ref W), some (.ref S), o4, o5, o6] ∧ Same H H1 ∧ H S = none ∧ W ≠ S ∧ H1 W = some (.lst vs) ∧ WTs H1 vs ws ∧ H1 S = some (.lst (seen.map V.int)) ∧
        ws.length ≤ seen.length ∧ (∀ w, w ∈ ws → Way ns n.num w ∧ w.length ≤ seen.length) ∧ RM ns n.num ws seen.length 0 seen []) muR
      ⟨W0, S0, _, [[n.num]], [n.num], none, none, none, rfl, s3, s2.free nS0, nSW, by rw [upd_ne nSW, upd_same], .cons ⟨t, ot, rfl, by rw [upd_ne nSt, upd_ne nWt, upd_same]; rfl, no⟩ .nil, upd_same, Nat.le_refl _,
        (RM.start hx).way, RM.again (RM.start hx)⟩ (fun σ H1 p => ?_) (fun σ H1 Qa Qb k h => ?_)
    · obtain ⟨W, S, vs, ws, seen, o4, o5, o6, rfl, sm, nS, nWS, hW, hWd, hS, hwl, hww, M⟩ := p
      refine ⟨_, rfl, Nat.zero_le _, fun e0 ne0 => ?_⟩
      have se0 : Same H1 (upd H1 e0 (.lst [])) := same_upd ne0
      refine ⟨.list (ws.map wayD), .list [], .lst (SqL.of (se0 _ _ hW)) (WTs.dp (hWd.mono (Same.frz se0))), .lst (SqL.of upd_same) .nil, shaped_ways ws, shaped_nil, _, rfl, ?_⟩
      rw [eqv_nil]
      cases ws with
      | nil =>
        refine iteF ?_
        exact qN _ (sm.trans se0) M.done
      | cons w0 wr =>
        refine iteT ?_
        have hlenv : vs.length = wr.length + 1 := by
          exact WTs.len hWd
        have hlens : seen.length ≤ 8 := Nat.le_trans M.len few
        have hmu : muR [some (.ref a), some (.int n.num), some (.ref W), some (.ref S), o4, o5, o6] H1 = 2 * (8 - seen.length) + 1 := by
          unfold muR
          rw [lenAt_of (i := 3) rfl hS, lenAt_of (i := 2) rfl hW, List.length_map, hlenv, if_neg (by omega)]
        -- longer = []
        refine ⟨Nat.zero_le _, fun L nL => ?_⟩
        have sL := se0.trans (same_upd (o := .lst []) nL)
        have nL1 : H1 L = none := se0.free nL
        have nLW : W ≠ L := ne_of_none hW nL1
        have nLS : S ≠ L := ne_of_none hS nL1
        have nLH : H L = none := sm.free nL1
        -- for way in ways
        refine ⟨_, rfl, W, rfl, ⟨_, SqL.of (sL _ _ hW)⟩, for_list (K := K) (a := W) (xs := vs) (fun i σ' H' => ∃ sn lv ls o5 o6, σ' = [some (.ref a), some (.int n.num), some (.ref W), some (.ref S), some (.ref L), o5, o6] ∧ RS H H' W S L vs (w0 :: wr) sn lv ls ∧ RM ns n.num (w0 :: wr) seen.length i sn ls)
          ⟨seen, [], [], o5, o6, rfl, ⟨sm.trans sL, sL _ _ hW, hWd.mono (Same.frz sL), sL _ _ hS, upd_same, .nil⟩, M⟩ (fun i σ' H' _ ⟨_, _, _, _, _, _, R, _⟩ => SqL.of R.w) (fun i x σ' H' hxi p => ?_) (fun σ' H' p => ?_)⟩
        · obtain ⟨sn, lv, ls, o5, o6, rfl, R, M1⟩ := p
          obtain ⟨wy, b, ob, hwy, rfl, hb, hob⟩ := R.wd.way_at hxi
          obtain ⟨wyW, wyL⟩ := hww wy (List.mem_of_getElem? hwy)
          obtain ⟨r, u, rfl⟩ := wyW.form
          have hu := Way.mem hx wyW u (List.mem_append_right _ List.mem_cons_self)
          obtain ⟨nu, hnu, rfl⟩ := node_there hu
          have eb : (r ++ [nu.num]).map V.int = r.map V.int ++ [V.int nu.num] := by simp
          have snl : seen.length ≤ sn.length := Nat.le_trans (Nat.le_add_left _ _) M1.grow
          have snl2 : sn.length ≤ 8 := Nat.le_trans M1.len few
          -- for other in behind(nodes, way[-1])
          refine ⟨_, rfl, _, rfl, _, rfl, b, _, -1, _, rfl, rfl, SqT.frz hb, (by rw [eb]; exact atI_last _ _), a, kvs, ns, nu, rfl, Same.rd R.same hd, hN.mono (Same.tups R.same), hnu, fun H2 p xs sm2 np hp hxs hxl => ?_⟩
          have R2 := R.keep sm2
          have npS : p ≠ S := fun z => by
            rw [z, R.s] at np
            cases np
          have npL : p ≠ L := fun z => by
            rw [z, R.l] at np
            cases np
          refine ⟨p, rfl, ⟨_, SqL.of hp⟩, for_list (K := K) (a := p) (xs := xs.map V.int) (fun j σ' H' => ∃ sn lv ls o6, σ' = [some (.ref a), some (.int n.num), some (.ref W), some (.ref S), some (.ref L), some (.ref b), o6] ∧ RS H H' W S L vs (w0 :: wr) sn lv ls ∧ RM ns n.num (w0 :: wr) seen.length i sn ls ∧
              H' p = some (.lst (xs.map V.int)) ∧ H' b = some (.frz ob (.tup ((r ++ [nu.num]).map V.int))) ∧ ∀ y, y ∈ xs.take j → y ≠ n.num ∧ y ∈ sn)
            ⟨sn, lv, ls, o6, rfl, R2, M1, hp, sm2 _ _ hb, fun y hy => by rw [List.take_zero] at hy; cases hy⟩ (fun j σ' H' _ ⟨_, _, _, _, _, _, _, h, _⟩ => SqL.of h) (fun j x σ' H' hxj p3 => ?_) (fun σ' H' p3 => ?_)⟩
          · obtain ⟨sn, lv, ls, o6, rfl, R, M2, hp3, hb3, dn⟩ := p3
            obtain ⟨y, hy, rfl⟩ := ints_get hxj
            have hrel : Rel ns nu.num y := (hxs y).mp (List.mem_of_getElem? hy)
            have snl : seen.length ≤ sn.length := Nat.le_trans (Nat.le_add_left _ _) M2.grow
            have snl2 : sn.length ≤ 8 := Nat.le_trans M2.len few
            have lsl : ls.length ≤ 8 := Nat.le_trans (Nat.le_add_right _ _) (Nat.le_trans M2.grow snl2)
            -- if other == number
            refine ⟨_, rfl, _, rfl, rfl, _, rfl, ?_⟩
            by_cases hyn : y = n.num
            · subst hyn
              rw [decide_eq_true rfl]
              refine iteT ⟨_, rfl, qR H' b ob _ R.same hb3 hob ⟨wyW, fun u' e' => ?_⟩ (Nat.le_trans wyL hlens)⟩
              have e2 : u' = nu.num := by simpa using e'.symm
              rw [e2]
              exact hrel
            rw [decide_eq_false fun z => hyn (V.int.inj z)]
            refine iteF ?_
            -- if other not in seen
            refine ⟨_, rfl, _, rfl, S, _, rfl, .inl (SqL.of R.s), rfl, flat_ints _, _, rfl, ?_⟩
            rw [notIn_ints]
            by_cases hys : y ∈ sn
            · rw [decide_eq_true hys]
              refine iteF ⟨sn, lv, ls, _, rfl, R, M2, hp3, hb3, fun z hz => ?_⟩
              rw [take_snoc hy] at hz
              rcases List.mem_append.mp hz with q | q
              · exact dn z q
              · rw [List.mem_singleton.mp q]
                exact ⟨hyn, hys⟩
            · rw [decide_eq_false hys]
              -- seen.append(other)
              refine iteT ⟨_, rfl, .inl ⟨rfl, _, SqL.of R.s⟩, _, rfl, S, _, _, rfl, rfl, R.s, ?_, ?_⟩
              · rw [List.length_map]
                exact small1000 (by omega)
              have tS := frz_upd_lst (o := .lst (sn.map V.int ++ [V.int y])) R.s
              have sS := same_upd0 (o := .lst (sn.map V.int ++ [V.int y])) R.same nS
              have hL1 : (upd H' S (.lst (sn.map V.int ++ [V.int y]))) L = some (.lst lv) := by rw [upd_ne nLS.symm]; exact R.l
              -- longer.append(way + (other,))
              refine ⟨_, rfl, .inl ⟨rfl, _, SqL.of hL1⟩, _, rfl, _, rfl, (by show 1 ≤ sizeLine; decide), fun t1 nt1 => ?_⟩
              have s4 := same_upd (o := .tup [V.int y]) nt1
              refine ⟨b, t1, _, _, rfl, rfl, SqT.frz (s4 _ _ (tS _ _ _ hb3)), SqT.of upd_same, fun z => ?_, fun z => ?_, ?_, fun t2 ob2 nt2 no2 => ?_⟩
              · rw [eb] at z
                simp at z
              · cases z
              · rw [List.length_map]
                show (r ++ [nu.num]).length + 1 ≤ sizeLine
                exact Nat.le_of_lt (small1000 (by omega))
              have s5 := s4.trans (same_upd (o := .frz ob2 (.tup ((r ++ [nu.num]).map V.int ++ [V.int y]))) nt2)
              have hL5 := s5 _ _ hL1
              refine ⟨L, _, _, rfl, rfl, hL5, ?_, ?_⟩
              · have e := WTs.len R.ld
                rw [e]
                exact small1000 (by omega)
              have tL := frz_upd_lst (o := .lst (lv ++ [V.ref t2])) hL5
              have tT : Frz H' (upd (upd (upd (upd H' S (.lst (sn.map V.int ++ [V.int y]))) t1 (.tup [V.int y])) t2 (.frz ob2 (.tup ((r ++ [nu.num]).map V.int ++ [V.int y])))) L (.lst (lv ++ [V.ref t2]))) := tS.trans ((Same.frz s5).trans tL)
              have nt2L : t2 ≠ L := fun z => by
                rw [z, s4 _ _ hL1] at nt2
                cases nt2
              refine ⟨sn ++ [y], lv ++ [V.ref t2], ls ++ [(r ++ [nu.num]) ++ [y]], _, rfl, ⟨same_upd0 (sS.trans s5) nLH, ?_, R.wd.mono tT, ?_, upd_same, ?_⟩, M2.add wyW (Nat.le_trans wyL snl) hrel hys, ?_, tT _ _ _ hb3, fun z hz => ?_⟩
              · rw [upd_ne nLW]
                exact s5 _ _ (by rw [upd_ne nWS]; exact R.w)
              · rw [upd_ne nLS]
                have q := s5 _ _ (upd_same (H := H') (a := S) (o := .lst (sn.map V.int ++ [V.int y])))
                rw [q]
                simp
              · refine WTs.append (R.ld.mono tT) (.cons ⟨t2, ob2, rfl, ?_, no2⟩ .nil)
                have e7 : (r ++ [nu.num]).map V.int ++ [V.int y] = ((r ++ [nu.num]) ++ [y]).map V.int := (List.map_append (f := V.int) (l₁ := r ++ [nu.num]) (l₂ := [y])).symm
                rw [upd_ne nt2L, upd_same, e7]
              · rw [upd_ne npL]
                exact s5 _ _ (by rw [upd_ne npS]; exact hp3)
              · rw [take_snoc hy] at hz
                rcases List.mem_append.mp hz with q | q
                · exact ⟨(dn z q).1, List.mem_append_left _ (dn z q).2⟩
                · rw [List.mem_singleton.mp q]
                  exact ⟨hyn, List.mem_append_right _ List.mem_cons_self⟩
          · obtain ⟨sn, lv, ls, o6, rfl, R, M2, hp3, hb3, dn⟩ := p3
            refine ⟨sn, lv, ls, _, _, rfl, R, M2.next hwy fun y hy => dn y ?_⟩
            rw [List.length_map, List.take_length]
            exact (hxs y).mpr hy
        · obtain ⟨sn, lv, ls, o5, o6, rfl, R, M1⟩ := p
          have e1 : vs.length = (w0 :: wr).length := hlenv
          rw [e1] at M1
          have snl2 : sn.length ≤ 8 := Nat.le_trans M1.len few
          -- ways = longer
          have hg := M1.grow
          refine ⟨_, rfl, ⟨L, S, lv, ls, sn, _, o5, o6, rfl, R.same, nS, nLS.symm, R.l, R.ld, R.s, by omega, M1.way, M1.again⟩, ?_⟩
          have hlv : lv.length = ls.length := by
            exact WTs.len R.ld
          rw [hmu]
          show muR [some (.ref a), some (.int n.num), some (.ref L), some (.ref S), some (.ref L), o5, o6] H' < _
          unfold muR
          rw [lenAt_of (i := 3) rfl R.s, lenAt_of (i := 2) rfl R.l, List.length_map, hlv]
          by_cases z : ls.length = 0
          · rw [if_pos z]
            omega
          · rw [if_neg z]
            omega
    · obtain ⟨v, e, l, q⟩ := h
      refine ⟨v, e, l, fun p np => ?_⟩
      obtain ⟨d, e', h1, h2, h3, h4, b, eb, hq⟩ := q p np
      exact ⟨d, e', h1, h2, h3, h4, b, eb, k _ _ hq⟩
end
end K46

set_option Elab.async false
set_option linter.all false
set_option maxRecDepth 100000
set_option maxHeartbeats 4000000
/-! K46G: order_of. -/
namespace K46
open PySem PySem.Spec PyProof.Rows L2
def relB (ns : List Nd) (z y : Int) : Bool := match nodeOf ns z, nodeOf ns y with
  | some n, some m => leadsB n m
  | _, _ => false
theorem relB_iff {ns : List Nd} (nd : (ns.map Nd.num).Nodup) {z y : Int} : relB ns z y = true ↔ Rel ns z y := by
  constructor
  · intro h
    unfold relB at h
    split at h
    · rename_i n m e1 e2
      obtain ⟨h1, h2⟩ := nodeOf_some e1
      obtain ⟨h3, h4⟩ := nodeOf_some e2
      exact ⟨n, h1, m, h3, h2, h4, h⟩
    · cases h
  · rintro ⟨n, hn, m, hm, rfl, rfl, e⟩
    unfold relB
    rw [nodeOf_mem nd hn, nodeOf_mem nd hm]
    exact e
def freeB (ns : List Nd) (ys : List Int) (y : Int) : Bool := !(ys.any fun z => relB ns z y)
theorem eqv_nil2 (xs : List Int) : PyData.eqv (.list (xs.map PyData.int)) (.list []) = xs.isEmpty := by
  rw [eqv_nil]
  cases xs <;> rfl
def scOrdIn : Scope := { kind := .function, names := [(".0", .local), ("one", .cell), ("any", .globalImplicit), ("left", .free), ("nodes", .free)], isGenerator := false, isCoroutine := false, more := [] }
section
variable {P : Program} {w : World} {K : PySem.W.Frag} {mg : Str → Option Value} {base : Heap}
def spOrder : Sp := fun vs H Q _ => ∃ a kvs ns, vs = [.ref a] ∧ Rd H a (.dK kvs) ∧ NdsAt H kvs ns ∧
  (∀ H', Same H H' → (∃ x, Reach ns x x) → Q .non H') ∧ ∀ (H' : Hp) (p : Addr), Same H H' → (¬ ∃ x, Reach ns x x) → Q (.ref p) H'
theorem scOrd : FnScope ["nodes", "left", "order", "free", "one", "other"] ["nodes"] (defScope sOrder) := ⟨rfl, rfl, rfl, by decide +kernel, rfl, by decide +kernel, by decide +kernel⟩
theorem ok_order {f fL : Addr} {fd fdL : FuncData} (F : FnP K "order_of" sOrder f fd) (GL : FnOk P w K mg base CX0 4 fL fdL ["one", "other"] (spNN leadsB)) (kL : PySem.W.keepIn K (.ref fL) = true) (bL : Binds K fdL ["one", "other"] []) (gL : mg "leads" = some (.ref fL)) (mS : mg "sorted" = none) (ma : mg "any" = none) :
    FnOk P w K mg base CX0 5 f fd ["nodes"] spOrder := by
  refine okN F scOrd (fun vs H Q E h => ?_) (fun cdv A outer s H vs Q E hr h => ?_)
  · obtain ⟨a, kvs, ns, rfl, _⟩ := h
    rfl
  · obtain ⟨a, kvs, ns, rfl, hd, hN, qN, qR⟩ := h
    have hu := hu_of hr
    refine ⟨_, pss_cons (ps_asg (pe_tup (pa_cons (pe_callB (call_sortedDI rfl) (by rfl) mS (by decide +kernel) (pa_cons (pv 0) pa_nil)) (pa_cons (pe_tup pa_nil) pa_nil)))
        (pg_tup rfl (pgs_cons (pg_name (i := 1) scOrd.nd rfl (Or.inr rfl)) (pgs_cons (pg_name (i := 2) scOrd.nd rfl (Or.inl rfl)) pgs_nil))))
      (pss_cons (ps_while PassesOwn.never (pt_cmpR (op_neD hr.units) (pv 1) (pe_lst pa_nil) (nomark _))
        (pss_cons (ps_setLc (i := 3) (own := [("one", 4)]) (g := gName 4) (te := tVar 4)
            (tt := tNot (tB (tCB (rAny K) (tCons (tLc (iList K (tVar 1)) (gName 5) tYes (tCall (spNN leadsB) [] E0 (tCons (tDGet (tVar 0) (tVar 5)) (tCons (tDGet (tVar 0) (tVar 4)) tNil))) [5]) tNil)))) rfl scOrd.nd rfl rfl (sw_true rfl rfl rfl (by decide +kernel))
            (pi_list (pv 1)) (blkOk_by (N := ["nodes", "left", "order", "free", "one", "other"]) (sc := defScope sOrder) (by decide +kernel)) (fun _ _ _ _ _ => pg_name (i := 4) scOrd.nd rfl (Or.inr rfl))
            (fun _ _ _ _ _ => pts_one (pt_not (pt_val (pe_callB (cr_any rfl) (by rfl) ma (by decide +kernel) (pa_cons (pe_lc (own := [("other", 5)]) (g := gName 5) (tt := tYes) (te := tCall (spNN leadsB) [] E0 (tCons (tDGet (tVar 0) (tVar 5)) (tCons (tDGet (tVar 0) (tVar 4)) tNil))) rfl scOrd.nd
              (pi_list (pv 1)) (blkOk_by (N := ["nodes", "left", "order", "free", "one", "other"]) (sc := relS scOrdIn (defScope sOrder)) (by decide +kernel)) (fun _ _ _ _ _ => pg_name (i := 5) scOrd.nd rfl (Or.inl rfl)) (fun _ _ _ _ _ => pts_nil)
              (fun _ _ _ _ _ => pe_call GL hr (by rfl) gL kL bL .nil pass0 (pa_cons (pe_dget hu (pv 0) (pv 5) (fun _ _ => rfl)) (pa_cons (pe_dget hu (pv 0) (pv 4) (fun _ _ => rfl)) pa_nil)))) pa_nil)))))
            (fun _ _ _ _ _ => pv 4))
        (pss_cons (ps_if (pt_cmpR (op_eqD hr.units) (pv 3) (pe_lst pa_nil) (nomark _)) (pss_one (ps_ret pe_non)) pss_nil)
        (pss_cons (ps_set (i := 2) scOrd.nd rfl (.inl rfl) (pe_op op_catA (pv 2) (pe_tup (pa_cons (pe_ix ix_list (pv 3) pe_int (fun _ _ => rfl)) pa_nil))))
        (pss_one (ps_expr (pe_bm PySem.F.plainAttrs_list PySem.F.slot_list_remove PySem.F.type_list_remove mt_remove (pv 1) (pa_cons (pe_ix ix_list (pv 3) pe_int (fun _ _ => rfl)) pa_nil))))))))
      (pss_one (ps_ret (pv 2)))), ?_⟩
    have few := hN.few
    -- left, order = sorted(nodes), ()
    refine ⟨_, rfl, a, kvs, ns.map Nd.num, rfl, hd, paired_keys hN.p, (by rw [List.length_map]; omega), fun ys L hp hs nL => ?_⟩
    have s1 : Same H (upd H L (.lst (ys.map V.int))) := same_upd nL
    refine ⟨Nat.zero_le _, fun O nO => ⟨(by show 2 ≤ sizeLine; decide), fun T nT => ?_⟩⟩
    have s2 := same_upd (o := .tup []) nO
    have s3 := same_upd (o := .tup [.ref L, .ref O]) nT
    have hL2 := s2 _ _ (upd_same (H := H) (a := L) (o := .lst (ys.map V.int)))
    refine ⟨T, _, rfl, SqT.of upd_same, rfl, _, _, rfl, _, _, rfl, rfl, ?_⟩
    refine while_by (fun σ H1 => ∃ O ys os o3 o4 o5, σ = [some (.ref a), some (.ref L), some (.ref O), o3, o4, o5] ∧ Same H H1 ∧ H1 L = some (.lst (ys.map V.int)) ∧ H1 O = some (.tup (os.map V.int)) ∧ (∀ y, y ∈ ys → y ∈ ns.map Nd.num) ∧ ys.Nodup ∧ (∀ x, x ∉ ys → ¬ Reach ns x x) ∧ os.length + ys.length ≤ 8)
      (fun σ H1 => lenAt σ H1 1)
      ⟨O, ys, [], none, none, none, rfl, s1.trans (s2.trans s3), s3 _ _ hL2, s3 _ _ upd_same, fun y hy => hp.mem_iff.mp hy, hp.nodup_iff.mpr hN.nd, fun x hx r => hx (hp.mem_iff.mpr r.left), by have := few_perm hp few; simpa using this⟩ (fun σ H1 p => ?_) (fun σ H1 Qa Qb k h => ?_)
    · obtain ⟨O, ys, os, o3, o4, o5, rfl, sm, hL, hO, hsub, hnd, hoff, hlen⟩ := p
      have hmu : lenAt [some (.ref a), some (.ref L), some (.ref O), o3, o4, o5] H1 1 = ys.length := by
        rw [lenAt_of (i := 1) rfl hL, List.length_map]
      rw [hmu]
      refine ⟨_, rfl, Nat.zero_le _, fun e0 ne0 => ?_⟩
      have se0 : Same H1 (upd H1 e0 (.lst [])) := same_upd ne0
      refine ⟨.list (ys.map PyData.int), .list [], .lst (SqL.of (se0 _ _ hL)) (DTs.dp (DTs.ints _)), .lst (SqL.of upd_same) .nil, shaped_ints ys, shaped_nil, _, rfl, ?_⟩
      rw [eqv_nil2]
      by_cases hys : ys = []
      · subst hys
        refine iteF ⟨_, rfl, qR _ O (sm.trans se0) ?_⟩
        rintro ⟨x, r⟩
        exact hoff x (by simp) r
      have hb : ys.isEmpty = false := by
        cases ys with
        | nil => exact absurd rfl hys
        | cons y r => rfl
      rw [hb]
      -- free = [..]
      refine iteT ⟨_, rfl, L, rfl, ⟨_, SqL.of (se0 _ _ hL)⟩, fun D nD => ?_⟩
      have sD := se0.trans (same_upd (o := .lst []) nD)
      have nD1 : H1 D = none := se0.free nD
      have nLD : L ≠ D := ne_of_none hL nD1
      refine walk_list (K := K) (a := L) (xs := ys.map V.int) (fun i H' => KeepW D H1 H' ∧ H' D = some (.lst (((ys.take i).filter (freeB ns ys)).map V.int)))
        ⟨KeepW.of_same sD, upd_same⟩ (fun i H' _ pv => SqL.of (pv.1 _ _ hL nLD)) (fun i x H' hx pv => ?_) (fun H' pv => ?_)
      · obtain ⟨y, hy, rfl⟩ := ints_get hx
        have hyn := hsub y (List.mem_of_getElem? hy)
        obtain ⟨m, hm, rfl⟩ := node_there hyn
        have kp : Same H H' := fun c o e => pv.1 c o (sm c o e) (ne_of_none e (sm.free nD1))
        obtain ⟨v2, e2, h2⟩ := hN.get hm
        have hL' := pv.1 _ _ hL nLD
        refine ⟨rfl, _, rfl, L, rfl, ⟨_, SqL.of hL'⟩, fun D2 nD2 => ?_⟩
        have nDD : D ≠ D2 := ne_of_none pv.2 nD2
        refine walk_list (K := K) (a := L) (xs := ys.map V.int) (fun j H2 => Same H' H2 ∧ H2 D2 = some (.lst (((ys.take j).map fun z => relB ns z m.num).map V.bl)))
          ⟨same_upd nD2, upd_same⟩ (fun j H2 _ p2 => SqL.of (p2.1 _ _ hL')) (fun j x2 H2 hx2 p2 => ?_) (fun H2 p2 => ?_)
        · obtain ⟨z, hz, rfl⟩ := ints_get hx2
          obtain ⟨n, hn, rfl⟩ := node_there (hsub z (List.mem_of_getElem? hz))
          obtain ⟨v1, e1, h1⟩ := hN.get hn
          have kp2 := kp.trans p2.1
          have eb : relB ns n.num m.num = leadsB n m := by
            unfold relB
            rw [nodeOf_mem hN.nd hn, nodeOf_mem hN.nd hm]
          refine ⟨rfl, _, rfl, _, rfl, a, v1, rfl, dget_of (Same.rd kp2 hd) e1, _, rfl, _, rfl, a, v2, rfl, dget_of (Same.rd kp2 hd) e2, v1, v2, n, m, rfl, h1.mono (Same.tups kp2), h2.mono (Same.tups kp2), fun H3 sm3 => ?_⟩
          refine ⟨_, sm3 _ _ p2.2, ?_, fun c o e => ?_, ?_⟩
          · rw [List.length_map, List.length_map, List.length_take]
            exact small1000 (by omega)
          · rw [upd_ne (ne_of_none e nD2)]
            exact sm3 _ _ (p2.1 _ _ e)
          · rw [upd_same, take_snoc hz]
            simp [eb]
        · have e3 := p2.2
          rw [List.length_map, List.take_length] at e3
          refine ⟨D2, _, rfl, SqL.of e3, _, rfl, ?_⟩
          rw [any_map_bl]
          have ef : (ys.take (i + 1)).filter (freeB ns ys) = if freeB ns ys m.num = true then (ys.take i).filter (freeB ns ys) ++ [m.num] else (ys.take i).filter (freeB ns ys) := by
            rw [take_snoc hy, filter_snoc]
          have ez : freeB ns ys m.num = !(ys.any fun z => relB ns z m.num) := rfl
          cases q : (ys.any fun z => relB ns z m.num) with
          | true =>
            rw [q] at ez
            have ez' : freeB ns ys m.num = false := ez
            refine iteF ⟨fun c o e n => p2.1 _ _ (pv.1 _ _ e n), ?_⟩
            rw [ef, ez', if_neg Bool.false_ne_true]
            exact p2.1 _ _ pv.2
          | false =>
            rw [q] at ez
            have ez' : freeB ns ys m.num = true := ez
            refine iteT ⟨_, rfl, _, p2.1 _ _ pv.2, ?_, fun c o e n => ?_, ?_⟩
            · have l2 := List.length_filter_le (freeB ns ys) (ys.take i)
              rw [List.length_map]
              rw [List.length_take] at l2
              exact small1000 (by omega)
            · rw [upd_ne n]
              exact p2.1 _ _ (pv.1 _ _ e n)
            · rw [upd_same, ef, ez', if_pos rfl]
              simp
      · have e := pv.2
        rw [List.length_map, List.take_length] at e
        have kp : Same H H' := fun c o e => pv.1 c o (sm c o e) (ne_of_none e (sm.free nD1))
        have hL' := pv.1 _ _ hL nLD
        have hO' := pv.1 _ _ hO (ne_of_none hO nD1)
        -- if free == []
        refine ⟨_, rfl, Nat.zero_le _, fun e1 ne1 => ?_⟩
        have se1 : Same H' (upd H' e1 (.lst [])) := same_upd ne1
        refine ⟨.list ((ys.filter (freeB ns ys)).map PyData.int), .list [], .lst (SqL.of (se1 _ _ e)) (DTs.dp (DTs.ints _)), .lst (SqL.of upd_same) .nil, shaped_ints _, shaped_nil, _, rfl, ?_⟩
        rw [eqv_nil2]
        cases hf : ys.filter (freeB ns ys) with
        | nil =>
          refine iteT (qN _ (kp.trans se1) (ring_if hys fun y hy => ?_))
          have hnf : ¬ freeB ns ys y = true := fun z => by
            have : y ∈ ys.filter (freeB ns ys) := List.mem_filter.mpr ⟨hy, z⟩
            rw [hf] at this
            cases this
          unfold freeB at hnf
          rw [Bool.not_eq_true', Bool.not_eq_false, List.any_eq_true] at hnf
          obtain ⟨z, hz, r⟩ := hnf
          exact ⟨z, hz, (relB_iff hN.nd).mp r⟩
        | cons f0 fr =>
          rw [hf] at e
          have hfm : f0 ∈ ys ∧ freeB ns ys f0 = true := List.mem_filter.mp (by rw [hf]; exact List.mem_cons_self)
          refine iteF ?_
          have hD1 := se1 _ _ e
          have hL1 := se1 _ _ hL'
          have hO1 := se1 _ _ hO'
          -- order = order + (free[0],)
          refine ⟨_, rfl, _, rfl, D, _, 0, _, rfl, rfl, SqL.of hD1, atI_nat (j := 0) rfl, (by show 1 ≤ sizeLine; decide), fun t1 nt1 => ?_⟩
          have s4 := same_upd (o := .tup [V.int f0]) nt1
          obtain ⟨j, hj, ej⟩ := List.getElem_of_mem hfm.1
          have ej' : ys[j]? = some f0 := by rw [List.getElem?_eq_getElem hj, ej]
          have pm := erase_perm ys j f0 ej'
          have nd2 : (f0 :: ys.eraseIdx j).Nodup := pm.nodup_iff.mpr hnd
          rw [List.nodup_cons] at nd2
          have hl2 : (ys.eraseIdx j).length + 1 = ys.length := by
            have q := pm.length_eq
            rw [List.length_cons] at q
            exact q
          have off2 : ∀ x, x ∉ ys.eraseIdx j → ¬ Reach ns x x := fun x hx r => by
            by_cases hxy : x ∈ ys
            · rcases List.mem_cons.mp (pm.mem_iff.mpr hxy) with q | q
              · subst q
                refine off_ring hoff (fun z hz rz => ?_) r
                have hfb := hfm.2
                unfold freeB at hfb
                rw [Bool.not_eq_true'] at hfb
                have : (ys.any fun z => relB ns z x) = true := List.any_eq_true.mpr ⟨z, hz, (relB_iff hN.nd).mpr rz⟩
                rw [this] at hfb
                cases hfb
              · exact hx q
            · exact hoff x hxy r
          -- left.remove(free[0]), from any heap with the new order
          have fin : ∀ (Hn : Hp) (On : Addr) (osn : List Int), Same (upd H' e1 (.lst [])) Hn → Hn On = some (.tup (osn.map V.int)) → osn.length ≤ os.length + 1 →
              (tBM K "list" rRemI (tVar 1) (tCons (tOp (rIxL K) (tVar 3) (tC (.int 0))) tNil)) [some (.ref a), some (.ref L), some (.ref On), some (.ref D), o4, o5] Hn fun _ H9 =>
                (∃ (O : Addr) (ys os : List Int) (o3 o4' o5' : Option V), ([some (.ref a), some (.ref L), some (.ref On), some (.ref D), o4, o5] : L2.St) = [some (.ref a), some (.ref L), some (.ref O), o3, o4', o5'] ∧ Same H H9 ∧ H9 L = some (.lst (ys.map V.int)) ∧ H9 O = some (.tup (os.map V.int)) ∧ (∀ y, y ∈ ys → y ∈ ns.map Nd.num) ∧ ys.Nodup ∧ (∀ x, x ∉ ys → ¬ Reach ns x x) ∧ os.length + ys.length ≤ 8) ∧
                lenAt [some (.ref a), some (.ref L), some (.ref On), some (.ref D), o4, o5] H9 1 < ys.length := by
            intro Hn On osn sn hOn hosn
            have hLn := sn _ _ hL1
            refine ⟨_, rfl, .inl ⟨rfl, _, SqL.of hLn⟩, _, rfl, D, _, 0, _, rfl, rfl, SqL.of (sn _ _ hD1), atI_nat (j := 0) rfl, L, ys, f0, j, rfl, rfl, hLn, ej', fun m hm e' => ?_, ⟨On, ys.eraseIdx j, osn, _, _, _, rfl, ?_, upd_same, ?_, fun y hy => ?_, nd2.2, off2, by omega⟩, ?_⟩
            · have := nd_ix hnd e' ej'
              omega
            · exact same_upd0 (kp.trans (se1.trans sn)) nL
            · rw [upd_ne (fun z => by rw [z, hLn] at hOn; cases hOn)]
              exact hOn
            · exact hsub y (pm.mem_iff.mp (List.mem_cons_of_mem _ hy))
            · rw [lenAt_of (i := 1) rfl upd_same, List.length_map]
              omega
          refine ⟨O, t1, _, _, rfl, rfl, SqT.of (s4 _ _ hO1), SqT.of upd_same, ?_, fun z => ?_, fun _ z => (by cases z), fun _ _ t2 nt2 => ?_⟩
          · rw [List.length_map]
            exact Nat.le_of_lt (small1000 (by show os.length + 1 ≤ 1000; omega))
          · exact fin _ t1 [f0] s4 upd_same (by simp)
          · refine fin _ t2 (os ++ [f0]) (s4.trans (same_upd nt2)) ?_ (by simp)
            rw [upd_same]
            simp
    · obtain ⟨v, e, l, q⟩ := h
      refine ⟨v, e, l, fun p np => ?_⟩
      obtain ⟨d, e', h1, h2, h3, h4, b, eb, hq⟩ := q p np
      exact ⟨d, e', h1, h2, h3, h4, b, eb, k _ _ hq⟩
end
end K46

set_option Elab.async false
set_option linter.all false
set_option maxRecDepth 100000
set_option maxHeartbeats 4000000
/-! K46H: sorted of triples of whole numbers, of any length. -/
namespace K46
open PySem PySem.Spec PyProof.Rows L2
def t3D (t : T3) : PyData := .tuple [.int t.1, .int t.2.1, .int t.2.2]
def le3 : T3 → T3 → Bool := PySem.W.dataLe false t3D
def srt3 (ts : List T3) : List T3 := ts.mergeSort le3
theorem dataLt_iii (x y z x' y' z' : Int) : PySem.W.dataLt (.tuple [.int x, .int y, .int z]) (.tuple [.int x', .int y', .int z']) = decide (x < x' ∨ (x = x' ∧ (y < y' ∨ (y = y' ∧ z < z')))) := by
  have e : PyProof.Rows.lexLt PyProof.Rows.itemOrd (PySem.W.keyToksAll []) (PySem.W.keyToksAll []) = false := PyProof.Rows.lex_irrefl _
  rw [PySem.W.dataLt_tuple, PySem.W.dataLt_cons (by simp [PySem.W.alike]), PySem.W.dataLt_cons (by simp [PySem.W.alike]), PySem.W.dataLt_cons (by simp [PySem.W.alike]), e, PySem.W.dataLt_int, PySem.W.dataLt_int, PySem.W.dataLt_int]
  simp only [PyData.eqv, beq_iff_eq]
  by_cases h1 : x = x' <;> by_cases h2 : y = y' <;> by_cases h3 : z = z' <;> simp [h1, h2, h3]
theorem le3_eq (p q : T3) : le3 p q = decide (p.1 < q.1 ∨ (p.1 = q.1 ∧ (p.2.1 < q.2.1 ∨ (p.2.1 = q.2.1 ∧ p.2.2 ≤ q.2.2)))) := by
  show (!PySem.W.dataLt (t3D q) (t3D p)) = _
  unfold t3D
  rw [dataLt_iii]
  by_cases h : q.1 < p.1 ∨ (q.1 = p.1 ∧ (q.2.1 < p.2.1 ∨ (q.2.1 = p.2.1 ∧ q.2.2 < p.2.2)))
  · have h' : ¬ (p.1 < q.1 ∨ (p.1 = q.1 ∧ (p.2.1 < q.2.1 ∨ (p.2.1 = q.2.1 ∧ p.2.2 ≤ q.2.2)))) := by omega
    rw [decide_eq_true h, decide_eq_false h']
    rfl
  · have h' : p.1 < q.1 ∨ (p.1 = q.1 ∧ (p.2.1 < q.2.1 ∨ (p.2.1 = q.2.1 ∧ p.2.2 ≤ q.2.2))) := by omega
    rw [decide_eq_true h', decide_eq_false h]
    rfl
theorem le3_anti {p q : T3} (h1 : le3 p q = true) (h2 : le3 q p = true) : p = q := by
  rw [le3_eq] at h1 h2
  have a := of_decide_eq_true h1
  have b := of_decide_eq_true h2
  obtain ⟨p1, p2, p3⟩ := p
  obtain ⟨q1, q2, q3⟩ := q
  simp only at a b
  have e1 : p1 = q1 := by omega
  have e2 : p2 = q2 := by omega
  have e3 : p3 = q3 := by omega
  subst e1 e2 e3
  rfl
/-- two lists in order that hold the same are one -/
theorem sorted_one {α : Type} {le : α → α → Bool} (anti : ∀ a b, le a b = true → le b a = true → a = b) : ∀ {l r : List α}, l.Perm r → l.Pairwise (fun a b => le a b = true) → r.Pairwise (fun a b => le a b = true) → l = r
  | [], r, p, _, _ => (List.nil_perm.mp p).symm
  | a :: l, [], p, _, _ => by
    have := p.length_eq
    simp at this
  | a :: l, b :: r, p, hl, hr => by
    obtain ⟨l1, l2⟩ := List.pairwise_cons.mp hl
    obtain ⟨r1, r2⟩ := List.pairwise_cons.mp hr
    have e : a = b := by
      have ha : a ∈ b :: r := p.mem_iff.mp List.mem_cons_self
      have hb : b ∈ a :: l := p.mem_iff.mpr List.mem_cons_self
      rcases List.mem_cons.mp ha with q | q
      · exact q
      · rcases List.mem_cons.mp hb with q2 | q2
        · exact q2.symm
        · exact anti _ _ (l1 b q2) (r1 a q)
    subst e
    rw [sorted_one anti (List.Perm.cons_inv p) l2 r2]
theorem srt3_eq {ts us : List T3} (p : ts.Perm us) : srt3 ts = srt3 us := by
  have tot := PySem.W.sortLe_total (PyProof.Rows.listOrd PyProof.Rows.itemOrd) false fun b => PySem.W.keyToks (t3D b)
  refine sorted_one (le := le3) (fun a b => le3_anti) ?_ (PySem.W.sort_pairwise tot ts) (PySem.W.sort_pairwise tot us)
  exact (List.mergeSort_perm ts le3).trans (p.trans (List.mergeSort_perm us le3).symm)
theorem srt3_mem {ts : List T3} {t : T3} : t ∈ srt3 ts ↔ t ∈ ts := (List.mergeSort_perm ts le3).mem_iff
theorem srt3_len (ts : List T3) : (srt3 ts).length = ts.length := (List.mergeSort_perm ts le3).length_eq
section
variable {X : Cx} {pins : List (Addr × Obj)} {σ : L2.St} {H : Hp} {s : Shared}
def R3 (H : Hp) (v : Value) (t : T3) : Prop := ∃ x, RelV x v ∧ DT H x (t3D t)
theorem each3 {H : Hp} : ∀ {ts : List T3} {xs : List V} {us : List Value}, DTs H xs (ts.map t3D) → Vals xs us → PySem.W.EachIs (R3 H) us ts
  | [], xs, us, h, r => by
    cases DTs.nil_inv h
    cases r
    exact .nil
  | t :: ts, xs, us, h, r => by
    obtain ⟨v, vs, rfl, a, b⟩ := DTs.cons_inv h
    cases r with
    | cons r1 r2 => exact .cons ⟨v, r1, a⟩ (each3 b r2)
theorem of_each3 {H : Hp} : ∀ {us : List Value} {ts : List T3}, PySem.W.EachIs (R3 H) us ts → ∃ xs, Vals xs us ∧ DTs H xs (ts.map t3D)
  | _, _, .nil => ⟨[], .nil, .nil⟩
  | _, _, .cons ⟨x, r, d⟩ t => by
    obtain ⟨xs, a, b⟩ := of_each3 t
    exact ⟨x :: xs, .cons r a, .cons d b⟩
def rSorted3 (K : PySem.W.Frag) : List V → Hp → VK → Prop := fun vs H Q => ∃ (a : Addr) (xs : List V) (ts : List T3), vs = [V.ref a] ∧ SqL K H a xs ∧ DTs H xs (ts.map t3D) ∧
  ∀ (ys : List V) (p : Addr), DTs H ys ((srt3 ts).map t3D) → H p = none → Q (.ref p) (upd H p (.lst ys))
theorem cr_sorted3 (hu : X.A.units + 64 < cLine) : CallR X (.builtin "sorted") (rSorted3 X.K) := by
  intro pins s σ H vs us Q I r h
  obtain ⟨a, xs, ts, rfl, hs, hd, q⟩ := h
  obtain ⟨its, rv, hl, hz⟩ := I.list hs
  rw [Vals.ref1 r]
  have e := each3 hd rv
  have hlen : ts.length ≤ sizeLine := by
    have := hd.length
    rw [List.length_map] at this
    omega
  refine PySem.W.sorted_data (R := R3 H) (enc := t3D) (bs := ts) hl.isList e (e.mono fun v b ⟨x, r1, d1⟩ => Dp.reads I _ x v d1.dp r1) (PySem.W.AllAlike.of fun _ _ => by simp [t3D, PySem.W.alike, PySem.W.alikeAll]) (PySem.W.Sortable.tuples fun b => ⟨_, _, rfl⟩) hlen (fun b _ => ?_) fun out hout eo => ?_
  · have hd1 : (t3D b).depth = 1 := by simp [t3D, PyData.depth, PyData.depthAll]
    rw [hd1]
    omega
  obtain ⟨ys, rys, dys⟩ := of_each3 eo
  obtain ⟨ep, he'⟩ := PyProof.Rows.sortedAll_at s.heap its out.toArray
  have hl2 : ys.length ≤ sizeLine := by
    rw [rys.length, hout]
    exact hlen
  exact ⟨.ref _, upd H (s.heap.objs.size + 1) (.lst ys), I.laid (t' := s.toks) (fun _ _ => PyProof.Rows.sortedAll_old) (Nat.le_succ _) ⟨hl2, out, ep, rys, he'⟩, rfl, q ys _ dys (I.hok.fresh (Nat.le_succ _))⟩
end
end K46

set_option Elab.async false
set_option linter.all false
set_option maxRecDepth 100000
set_option maxHeartbeats 4000000
/-! K46I: pivots, _law_pivots. -/
namespace K46
open PySem PySem.Spec PyProof.Rows L2
/-! ### walks along a locked dictionary's keys -/
theorem walk_keys {d : Addr} {o : Obj} {kvs : List (Key × V)} {Body : V → Hp → (Hp → Prop) → Prop} {Qd : Hp → Prop} {H0 : Hp} (Pv : Nat → Hp → Prop) (h0 : Pv 0 H0) (hl : ∀ i H, i ≤ kvs.length → Pv i H → H d = some (.frz o (.dK kvs)))
    (hs : ∀ i k v H, kvs[i]? = some (k, v) → Pv i H → Body (kV k) H (Pv (i + 1))) (hd : ∀ H, Pv kvs.length H → Qd H) :
    ∃ W : Nat → Nat → Hp → Prop, (∃ m, W 0 m H0) ∧ ∀ i m H, W i m H →
      ((Itk d o kvs).stop i H ∧ Qd H) ∨ ((Itk d o kvs).go i H ∧ ∃ Nx : Hp → Prop, (∀ H', Nx H' → ∃ m', m' < m ∧ W (i + 1) m' H') ∧ ∀ x H', (Itk d o kvs).yld i H x H' → Body x H' Nx) := by
  refine ⟨fun i m H => m = kvs.length - i ∧ i ≤ kvs.length ∧ Pv i H, ⟨kvs.length, by simp, Nat.zero_le _, h0⟩, ?_⟩
  rintro i m H ⟨rfl, hi, p⟩
  have q := hl i H hi p
  by_cases hlt : i < kvs.length
  · refine .inr ⟨⟨q, hlt⟩, Pv (i + 1), fun H' p' => ⟨kvs.length - (i + 1), by omega, rfl, hlt, p'⟩, fun x H' y => ?_⟩
    obtain ⟨e, k, v, e2, e3⟩ := y
    subst e e3
    exact hs i k v _ e2 p
  · have e : i = kvs.length := by omega
    subst e
    exact .inl ⟨⟨q, Nat.le_refl _⟩, hd H p⟩
theorem for_keys {d : Addr} {o : Obj} {kvs : List (Key × V)} {Body : V → L2.St → Hp → (L2.St → Hp → Prop) → Prop} {Qd : L2.St → Hp → Prop} {σ0 : L2.St} {H0 : Hp} (Pv : Nat → L2.St → Hp → Prop) (h0 : Pv 0 σ0 H0) (hl : ∀ i σ H, i ≤ kvs.length → Pv i σ H → H d = some (.frz o (.dK kvs)))
    (hs : ∀ i k v σ H, kvs[i]? = some (k, v) → Pv i σ H → Body (kV k) σ H (Pv (i + 1))) (hd : ∀ σ H, Pv kvs.length σ H → Qd σ H) :
    ∃ W : Nat → Nat → L2.St → Hp → Prop, (∃ m, W 0 m σ0 H0) ∧ ∀ i m σ H, W i m σ H →
      ((Itk d o kvs).stop i H ∧ Qd σ H) ∨ ((Itk d o kvs).go i H ∧ ∃ Nx : L2.St → Hp → Prop, (∀ σ' H', Nx σ' H' → ∃ m', m' < m ∧ W (i + 1) m' σ' H') ∧ ∀ x H', (Itk d o kvs).yld i H x H' → Body x σ H' Nx) := by
  refine ⟨fun i m σ H => m = kvs.length - i ∧ i ≤ kvs.length ∧ Pv i σ H, ⟨kvs.length, by simp, Nat.zero_le _, h0⟩, ?_⟩
  rintro i m σ H ⟨rfl, hi, p⟩
  have q := hl i σ H hi p
  by_cases hlt : i < kvs.length
  · refine .inr ⟨⟨q, hlt⟩, Pv (i + 1), fun σ' H' p' => ⟨kvs.length - (i + 1), by omega, rfl, hlt, p'⟩, fun x H' y => ?_⟩
    obtain ⟨e, k, v, e2, e3⟩ := y
    subst e e3
    exact hs i k v σ _ e2 p
  · have e : i = kvs.length := by omega
    subst e
    exact .inl ⟨⟨q, Nat.le_refl _⟩, hd σ H p⟩
/-! ### locks -/
theorem lock_tups {H : Hp} {a : Addr} {o : Obj} {kvs : List (Key × V)} (ha : H a = some (.dK kvs)) : Tups H (upd H a (.frz o (.dK kvs))) := fun b xs e => by
  rw [upd_ne (fun z => by rw [z, ha] at e; cases e)]
  exact e
theorem unlock {H H2 : Hp} {a : Addr} {o : Obj} {u : HO} (ha : H a = some u) (s : Same (upd H a (.frz o u)) H2) : Same H (upd H2 a u) := fun b x e => by
  by_cases hb : b = a
  · rw [hb, upd_same]
    rw [hb, ha] at e
    exact e
  · rw [upd_ne hb]
    exact s _ _ (by rw [upd_ne hb]; exact e)
/-! ### sizes -/
theorem flat_len {α β : Type} {l : List α} {f : α → List β} {c : Nat} (h : ∀ x, x ∈ l → (f x).length ≤ c) : (l.flatMap f).length ≤ l.length * c := by
  induction l with
  | nil => simp
  | cons x r ih =>
    rw [List.flatMap_cons, List.length_append, List.length_cons, Nat.add_mul]
    have a := h x List.mem_cons_self
    have b := ih fun y hy => h y (List.mem_cons_of_mem _ hy)
    omega
theorem onesP_len (ns : List Nd) (t : Nd) : (onesP ns t).length ≤ ns.length := by
  unfold onesP
  rw [List.length_map]
  exact List.length_filter_le _ _
theorem threesP_len (ns : List Nd) (t : Nd) : (threesP ns t).length ≤ ns.length := by
  unfold threesP
  rw [List.length_map]
  exact List.length_filter_le _ _
theorem pivT_len {ns : List Nd} (few : ns.length ≤ 8) (t : Nd) : (pivT ns t).length ≤ 64 := by
  have h1 : (pivT ns t).length ≤ (onesP ns t).length * 8 := flat_len fun o _ => by
    rw [List.length_map]
    have a := List.length_filter_le (fun c => decide (c ≤ o)) (threesP ns t)
    have b := threesP_len ns t
    omega
  have h2 := onesP_len ns t
  have h3 : (onesP ns t).length * 8 ≤ 8 * 8 := Nat.mul_le_mul_right 8 (by omega)
  omega
theorem pivF_len {ns : List Nd} (few : ns.length ≤ 8) (ys : List Int) : (pivF ns ys).length ≤ ys.length * 64 := flat_len fun y _ => by
  cases nodeOf ns y with
  | none => simp
  | some t => exact pivT_len few t
theorem lpC_len {ns : List Nd} (few : ns.length ≤ 8) (t c : Nd) : (lpC ns t c).length ≤ 8 := by
  unfold lpC
  by_cases h : (decide (c.num < t.num) && missB t c) = true
  · rw [if_pos h, List.length_map]
    have a := List.length_filter_le (fun o => decide (c.num ≤ o)) (onesL ns t)
    have b : (onesL ns t).length ≤ ns.length := by
      rw [← ones_eq]
      exact onesP_len ns t
    omega
  · rw [if_neg h]
    simp
theorem lpT_len {ns : List Nd} (few : ns.length ≤ 8) (t : Nd) : (lpT ns t).length ≤ 64 := by
  have h : (lpT ns t).length ≤ ns.length * 8 := flat_len fun c _ => lpC_len few t c
  have h3 : ns.length * 8 ≤ 8 * 8 := Nat.mul_le_mul_right 8 few
  omega
theorem lpF_len {ns : List Nd} (few : ns.length ≤ 8) (ts : List Nd) : (lpF ns ts).length ≤ ts.length * 64 := flat_len fun t _ => lpT_len few t
theorem flat_snoc {α β : Type} (l : List α) (x : α) (f : α → List β) : (l ++ [x]).flatMap f = l.flatMap f ++ f x := by
  rw [List.flatMap_append]
  simp
theorem DTs.t3 {H : Hp} {t1 : Addr} {t : T3} (h : H t1 = some (.tup [.int t.1, .int t.2.1, .int t.2.2])) : DT H (.ref t1) (t3D t) := .tup h (.cons (.int _) (.cons (.int _) (.cons (.int _) .nil)))
theorem dec_kV (x y : Int) : decide (kV (Sum.inl x : Key) = V.int y) = decide (x = y) := by
  by_cases z : x = y
  · rw [decide_eq_true z, decide_eq_true (show kV (Sum.inl x : Key) = V.int y from congrArg V.int z)]
  · rw [decide_eq_false z, decide_eq_false (show ¬ (kV (Sum.inl x : Key) = V.int y) from fun u => z (V.int.inj u))]
/-- the i-th pair and node -/
theorem kv_at {H : Hp} {kvs : List (Key × V)} {ns : List Nd} (h : NdsAt H kvs ns) {i : Nat} {k : Key} {v : V} (e : kvs[i]? = some (k, v)) : ∃ n, ns[i]? = some n ∧ k = Sum.inl n.num ∧ NdAt H v n ∧ n ∈ ns := by
  obtain ⟨n, h1, h2, h3⟩ := paired_get h.p e
  exact ⟨n, h1, h2, h3, List.mem_of_getElem? h1⟩
section
variable {P : Program} {w : World} {K : PySem.W.Frag} {mg : Str → Option Value} {base : Heap}
def spPiv : Sp := fun vs H Q _ => ∃ a kvs ns, vs = [.ref a] ∧ H a = some (.dK kvs) ∧ NdsAt H kvs ns ∧
  ∀ (H' : Hp) (p : Addr) (xs : List V), Same H H' → H p = none → H' p = some (.lst xs) → DTs H' xs ((srt3 (lpF ns ns)).map t3D) → Q (.ref p) H'
theorem scPiv : FnScope ["nodes", "found", "two", "ones", "threes", "one", "three"] ["nodes"] (defScope sPivots) := ⟨rfl, rfl, rfl, by decide +kernel, rfl, by decide +kernel, by decide +kernel⟩
theorem ok_pivots {f fR : Addr} {fd fdR : FuncData} (F : FnP K "pivots" sPivots f fd) (GR : FnOk P w K mg base CX0 3 fR fdR ["one", "other"] (spNN fr)) (kR : PySem.W.keepIn K (.ref fR) = true) (bR : Binds K fdR ["one", "other"] []) (gR : mg "follows_read" = some (.ref fR)) (mS : mg "sorted" = none) :
    FnOk P w K mg base CX0 4 f fd ["nodes"] spPiv := by
  refine okN F scPiv (fun vs H Q E h => ?_) (fun cdv A outer s H vs Q E hr h => ?_)
  · obtain ⟨a, kvs, ns, rfl, _⟩ := h
    rfl
  · obtain ⟨a, kvs, ns, rfl, hd, hN, q⟩ := h
    have hu := hu_of hr
    refine ⟨_, pss_cons (ps_set (i := 1) scPiv.nd rfl (.inl rfl) (pe_lst pa_nil))
      (pss_cons (ps_for PassesOwn.never rfl (pi_list (pe_callB (call_sortedDI rfl) (by rfl) mS (by decide +kernel) (pa_cons (pv 0) pa_nil))) (pg_name (i := 2) scPiv.nd rfl (.inr rfl))
        (pss_cons (ps_lock (ps_setLc (i := 3) (own := [("one", 5)]) (g := gName 5) (te := tVar 5)
            (tt := tAnd (tTest (tOp rNe (tVar 5) (tVar 2))) (tB (tCall (spNN fr) [] E0 (tCons (tDGet (tVar 0) (tVar 5)) (tCons (tDGet (tVar 0) (tVar 2)) tNil))))) rfl scPiv.nd rfl rfl (sw_true rfl rfl rfl (by decide +kernel))
            (pi_keys (pv 0)) (blkOk_by (N := ["nodes", "found", "two", "ones", "threes", "one", "three"]) (sc := defScope sPivots) (by decide +kernel)) (fun _ _ _ _ _ => pg_name (i := 5) scPiv.nd rfl (.inl rfl))
            (fun _ _ _ _ _ => pts_one (PW.pt (pw_and (pt_cmpR op_ne (pv 5) (pv 2) (nomark _)) (pw_and1 (pt_val (pe_call GR hr (by rfl) gR kR bR .nil pass0 (pa_cons (pe_dget hu (pv 0) (pv 5) (fun _ _ => rfl)) (pa_cons (pe_dget hu (pv 0) (pv 2) (fun _ _ => rfl)) pa_nil))))))))
            (fun _ _ _ _ _ => pv 5)))
        (pss_cons (ps_lock (ps_set (i := 4) scPiv.nd rfl (.inr rfl) (pe_lc (own := [("three", 6)]) (g := gName 6) (te := tVar 6)
            (tt := tAnd (tTest (tOp (rI0 fun i j => .bl (decide (i < j))) (tVar 6) (tVar 2))) (tB (tCall (spNN fr) [] E0 (tCons (tDGet (tVar 0) (tVar 2)) (tCons (tDGet (tVar 0) (tVar 6)) tNil))))) rfl scPiv.nd
            (pi_keys (pv 0)) (blkOk_by (N := ["nodes", "found", "two", "ones", "threes", "one", "three"]) (sc := defScope sPivots) (by decide +kernel)) (fun _ _ _ _ _ => pg_name (i := 6) scPiv.nd rfl (.inl rfl))
            (fun _ _ _ _ _ => pts_one (PW.pt (pw_and (pt_cmpR op_lt (pv 6) (pv 2) (nomark _)) (pw_and1 (pt_val (pe_call GR hr (by rfl) gR kR bR .nil pass0 (pa_cons (pe_dget hu (pv 0) (pv 2) (fun _ _ => rfl)) (pa_cons (pe_dget hu (pv 0) (pv 6) (fun _ _ => rfl)) pa_nil))))))))
            (fun _ _ _ _ _ => pv 6))))
        (pss_one (ps_aug (i := 1) scPiv.nd rfl (.inl rfl) (pe_lc2 (own := [("one", 5), ("three", 6)]) (vs1 := [6]) (g := gName 5) (g1 := gName 6) (tt := tYes) (tt1 := tTest (tOp (rI0 fun i j => .bl (decide (i ≤ j))) (tVar 6) (tVar 5)))
            (wi1 := iList K (tVar 4)) (te := tTup (tCons (tVar 5) (tCons (tVar 2) (tCons (tVar 6) tNil)))) rfl scPiv.nd
            (pi_list (pv 3)) (blkOk_by (N := ["nodes", "found", "two", "ones", "threes", "one", "three"]) (sc := defScope sPivots) (by decide +kernel)) (by decide)
            (fun _ _ _ _ _ => pg_name (i := 5) scPiv.nd rfl (.inl rfl)) (fun _ _ _ _ _ => pts_nil) (fun _ _ _ _ _ => pi_list (pv 4))
            (fun _ _ _ _ _ => pg_name (i := 6) scPiv.nd rfl (.inl rfl)) (fun _ _ _ _ _ => pts_one (pt_cmpR op_le (pv 6) (pv 5) (nomark _)))
            (fun _ _ _ _ _ => pe_tup (pa_cons (pv 5) (pa_cons (pv 2) (pa_cons (pv 6) pa_nil))))) iop_ext)))))
      (pss_one (ps_ret (pe_callB (cr_sorted3 hr.units) (by rfl) mS (by decide +kernel) (pa_cons (pv 1) pa_nil))))), ?_⟩
    have few := hN.few
    have kl : kvs.length = ns.length := paired_len hN.p
    -- found = []
    refine ⟨Nat.zero_le _, fun Fd nF => ?_⟩
    have s1 : Same H (upd H Fd (.lst [])) := same_upd nF
    have hd1 := s1 _ _ hd
    refine ⟨_, rfl, a, kvs, ns.map Nd.num, rfl, .inl hd1, paired_keys hN.p, (by rw [List.length_map]; omega), fun ys p hp hs np => ?_⟩
    have s2 := same_upd (o := .lst (ys.map V.int)) np
    have yl := few_perm hp few
    have npF : p ≠ Fd := fun e => by
      rw [e, upd_same] at np
      cases np
    -- for two in sorted(nodes)
    refine ⟨p, rfl, ⟨_, SqL.of upd_same⟩, for_list (K := K) (a := p) (xs := ys.map V.int) (fun i σ H1 => ∃ fv o2 o3 o4 o5 o6, σ = [some (.ref a), some (.ref Fd), o2, o3, o4, o5, o6] ∧ Same H H1 ∧ H1 p = some (.lst (ys.map V.int)) ∧ H1 Fd = some (.lst fv) ∧ DTs H1 fv ((pivF ns (ys.take i)).map t3D))
      ⟨[], none, none, none, none, none, rfl, s1.trans s2, upd_same, s2 _ _ upd_same, .nil⟩ (fun i σ H1 _ ⟨_, _, _, _, _, _, _, _, h, _⟩ => SqL.of h) (fun i x σ H1 hx pr => ?_) (fun σ H1 pr => ?_)⟩
    · obtain ⟨fv, o2, o3, o4, o5, o6, rfl, sm, hP, hF, hfv⟩ := pr
      obtain ⟨y, hy, rfl⟩ := ints_get hx
      obtain ⟨t, ht, rfl⟩ := node_there (hp.mem_iff.mp (List.mem_of_getElem? hy))
      have ha1 := sm _ _ hd
      have naF : a ≠ Fd := ne_of_none hd nF
      -- ones
      refine ⟨a, _, ha1, trivial, fun od => ?_⟩
      have N1 := (hN.mono (Same.tups sm)).mono (lock_tups (o := od) ha1)
      obtain ⟨vt, et, htA⟩ := N1.get ht
      refine ⟨_, rfl, a, od, rfl, .inl ⟨kvs, upd_same, fun D nD => ?_⟩⟩
      have sD := same_upd (o := .lst []) nD
      refine walk_keys (d := a) (o := od) (kvs := kvs) (fun j H2 => Same (upd H1 a (.frz od (.dK kvs))) H2 ∧ H2 D = some (.lst (((ns.take j).filter fun n => decide (n.num ≠ t.num) && fr n t).map fun n => V.int n.num)))
        ⟨sD, upd_same⟩ (fun j H2 _ p2 => p2.1 _ _ upd_same) (fun j k v H2 hk p2 => ?_) (fun H2 p2 => ?_)
      · obtain ⟨n, hn, rfl, hnA, hnm⟩ := kv_at N1 hk
        obtain ⟨vn, en, hnA2⟩ := N1.get hnm
        have tk : (ns.take (j + 1)).filter (fun n => decide (n.num ≠ t.num) && fr n t) = if (decide (n.num ≠ t.num) && fr n t) = true then (ns.take j).filter (fun n => decide (n.num ≠ t.num) && fr n t) ++ [n] else (ns.take j).filter (fun n => decide (n.num ≠ t.num) && fr n t) := by
          rw [take_snoc hn, filter_snoc]
        refine ⟨rfl, _, rfl, _, rfl, rfl, _, rfl, ?_⟩
        rw [dec_kV]
        by_cases z : n.num = t.num
        · rw [decide_eq_true z]
          refine iteF (iteF ⟨p2.1, ?_⟩)
          rw [tk, decide_eq_false (show ¬ n.num ≠ t.num from fun u => u z), Bool.false_and, if_neg Bool.false_ne_true]
          exact p2.2
        · rw [decide_eq_false z]
          have hr2 : Rd H2 a (.dK kvs) := .inr ⟨od, p2.1 _ _ upd_same⟩
          refine iteT ⟨_, rfl, _, rfl, a, vn, rfl, dget_of hr2 en, _, rfl, _, rfl, a, vt, rfl, dget_of hr2 et, vn, vt, n, t, rfl, hnA2.mono (Same.tups p2.1), htA.mono (Same.tups p2.1), fun H3 sm3 => ⟨_, rfl, ?_⟩⟩
          cases e : fr n t with
          | true =>
            refine iteT ⟨_, rfl, _, sm3 _ _ p2.2, ?_, fun c o e2 => ?_, ?_⟩
            · have l2 := List.length_filter_le (fun n => decide (n.num ≠ t.num) && fr n t) (ns.take j)
              rw [List.length_map]
              rw [List.length_take] at l2
              exact small1000 (by omega)
            · rw [upd_ne (ne_of_none e2 nD)]
              exact sm3 _ _ (p2.1 _ _ e2)
            · rw [upd_same, tk, e, decide_eq_true z, Bool.true_and, if_pos rfl, List.map_append]
              rfl
          | false =>
            refine iteF ⟨fun c o e2 => sm3 _ _ (p2.1 _ _ e2), ?_⟩
            rw [tk, e, Bool.and_false, if_neg Bool.false_ne_true]
            exact sm3 _ _ p2.2
      · have eO := p2.2
        rw [kl, List.take_length] at eO
        have eO2 : H2 D = some (.lst ((onesP ns t).map V.int)) := by
          rw [eO]
          unfold onesP
          rw [List.map_map]
          rfl
        refine ⟨p2.1 _ _ upd_same, ?_⟩
        have sU := unlock ha1 p2.1
        have naD : D ≠ a := fun z => by
          rw [z, upd_same] at nD
          cases nD
        have nDH : H1 D = none := by
          rw [upd_ne naD] at nD
          exact nD
        have hO3 : (upd H2 a (.dK kvs)) D = some (.lst ((onesP ns t).map V.int)) := by
          rw [upd_ne naD]
          exact eO2
        -- threes
        have ha2 : (upd H2 a (.dK kvs)) a = some (.dK kvs) := upd_same
        refine ⟨a, _, ha2, trivial, fun od2 => ?_⟩
        have N2 := ((hN.mono (Same.tups sm)).mono (Same.tups sU)).mono (lock_tups (o := od2) ha2)
        obtain ⟨vt2, et2, htA2⟩ := N2.get ht
        refine ⟨_, rfl, a, od2, rfl, .inl ⟨kvs, upd_same, fun D2 nD2 => ?_⟩⟩
        have sD2 := same_upd (o := .lst []) nD2
        refine walk_keys (d := a) (o := od2) (kvs := kvs) (fun j H3 => Same (upd (upd H2 a (.dK kvs)) a (.frz od2 (.dK kvs))) H3 ∧ H3 D2 = some (.lst (((ns.take j).filter fun n => decide (n.num < t.num) && fr t n).map fun n => V.int n.num)))
          ⟨sD2, upd_same⟩ (fun j H3 _ p3 => p3.1 _ _ upd_same) (fun j k v H3 hk p3 => ?_) (fun H3 p3 => ?_)
        · obtain ⟨n, hn, rfl, hnA, hnm⟩ := kv_at N2 hk
          obtain ⟨vn, en, hnA2⟩ := N2.get hnm
          have tk : (ns.take (j + 1)).filter (fun n => decide (n.num < t.num) && fr t n) = if (decide (n.num < t.num) && fr t n) = true then (ns.take j).filter (fun n => decide (n.num < t.num) && fr t n) ++ [n] else (ns.take j).filter (fun n => decide (n.num < t.num) && fr t n) := by
            rw [take_snoc hn, filter_snoc]
          refine ⟨rfl, _, rfl, _, rfl, _, _, rfl, rfl, _, rfl, ?_⟩
          by_cases z : n.num < t.num
          · rw [decide_eq_true z]
            have hr2 : Rd H3 a (.dK kvs) := .inr ⟨od2, p3.1 _ _ upd_same⟩
            refine iteT ⟨_, rfl, _, rfl, a, vt2, rfl, dget_of hr2 et2, _, rfl, _, rfl, a, vn, rfl, dget_of hr2 en, vt2, vn, t, n, rfl, htA2.mono (Same.tups p3.1), hnA2.mono (Same.tups p3.1), fun H4 sm4 => ⟨_, rfl, ?_⟩⟩
            cases e : fr t n with
            | true =>
              refine iteT ⟨_, rfl, _, sm4 _ _ p3.2, ?_, fun c o e2 => ?_, ?_⟩
              · have l2 := List.length_filter_le (fun n => decide (n.num < t.num) && fr t n) (ns.take j)
                rw [List.length_map]
                rw [List.length_take] at l2
                exact small1000 (by omega)
              · rw [upd_ne (ne_of_none e2 nD2)]
                exact sm4 _ _ (p3.1 _ _ e2)
              · rw [upd_same, tk, e, decide_eq_true z, Bool.true_and, if_pos rfl, List.map_append]
                rfl
            | false =>
              refine iteF ⟨fun c o e2 => sm4 _ _ (p3.1 _ _ e2), ?_⟩
              rw [tk, e, Bool.and_false, if_neg Bool.false_ne_true]
              exact sm4 _ _ p3.2
          · rw [decide_eq_false z]
            refine iteF (iteF ⟨p3.1, ?_⟩)
            rw [tk, decide_eq_false z, Bool.false_and, if_neg Bool.false_ne_true]
            exact p3.2
        · have eT := p3.2
          rw [kl, List.take_length] at eT
          have eT2 : H3 D2 = some (.lst ((threesP ns t).map V.int)) := by
            rw [eT]
            unfold threesP
            rw [List.map_map]
            rfl
          refine ⟨p3.1 _ _ upd_same, ?_⟩
          have sU2 := unlock ha2 p3.1
          have naD2 : D2 ≠ a := fun z => by
            rw [z, upd_same] at nD2
            cases nD2
          have nD2H : (upd H2 a (.dK kvs)) D2 = none := by
            rw [upd_ne naD2] at nD2
            exact nD2
          have sm4 := sm.trans (sU.trans sU2)
          have hO4 := sU2 _ _ hO3
          have hT4 : (upd H3 a (.dK kvs)) D2 = some (.lst ((threesP ns t).map V.int)) := by
            rw [upd_ne naD2]
            exact eT2
          have hF4 := sU2 _ _ (sU _ _ hF)
          have hP4 := sU2 _ _ (sU _ _ hP)
          have hfv4 := (hfv.mono (Same.tups sU)).mono (Same.tups sU2)
          -- found += [..]
          refine ⟨_, rfl, _, rfl, D, rfl, ⟨_, SqL.of hO4⟩, fun D3 nD3 => ?_⟩
          have sD3 := same_upd (o := .lst []) nD3
          refine walk_list (K := K) (a := D) (xs := (onesP ns t).map V.int) (fun j H5 => Same (upd H3 a (.dK kvs)) H5 ∧ ∃ gv, H5 D3 = some (.lst gv) ∧ DTs H5 gv ((((onesP ns t).take j).flatMap fun o => ((threesP ns t).filter fun c => decide (c ≤ o)).map fun c => (o, t.num, c)).map t3D))
            ⟨sD3, [], upd_same, .nil⟩ (fun j H5 _ p5 => SqL.of (p5.1 _ _ hO4)) (fun j x H5 hx5 p5 => ?_) (fun H5 p5 => ?_)
          · obtain ⟨o, ho, rfl⟩ := ints_get hx5
            obtain ⟨s5, gv, hg, hgd⟩ := p5
            refine ⟨rfl, _, rfl, D2, rfl, ⟨_, SqL.of (s5 _ _ hT4)⟩, ?_⟩
            refine walk_list (K := K) (a := D2) (xs := (threesP ns t).map V.int) (fun l H6 => Same (upd H3 a (.dK kvs)) H6 ∧ ∃ gv, H6 D3 = some (.lst gv) ∧ DTs H6 gv (((((onesP ns t).take j).flatMap fun o => ((threesP ns t).filter fun c => decide (c ≤ o)).map fun c => (o, t.num, c)) ++ (((threesP ns t).take l).filter fun c => decide (c ≤ o)).map fun c => (o, t.num, c)).map t3D))
              ⟨s5, gv, hg, by simpa using hgd⟩ (fun l H6 _ p6 => SqL.of (p6.1 _ _ hT4)) (fun l x6 H6 hx6 p6 => ?_) (fun H6 p6 => ?_)
            · obtain ⟨c, hc, rfl⟩ := ints_get hx6
              obtain ⟨s6, gv, hg, hgd⟩ := p6
              have tk : ((threesP ns t).take (l + 1)).filter (fun c => decide (c ≤ o)) = if decide (c ≤ o) = true then ((threesP ns t).take l).filter (fun c => decide (c ≤ o)) ++ [c] else ((threesP ns t).take l).filter (fun c => decide (c ≤ o)) := by
                rw [take_snoc hc, filter_snoc]
              refine ⟨rfl, _, rfl, _, rfl, _, _, rfl, rfl, _, rfl, ?_⟩
              by_cases z : c ≤ o
              · rw [decide_eq_true z]
                rw [decide_eq_true z, if_pos rfl] at tk
                refine iteT ⟨_, rfl, _, rfl, _, rfl, (by show 3 ≤ sizeLine; decide), fun t1 nt1 => ?_⟩
                have s7 := same_upd (o := .tup [V.int o, V.int t.num, V.int c]) nt1
                have nt1D : D3 ≠ t1 := ne_of_none hg nt1
                refine ⟨gv, s7 _ _ hg, ?_, fun b u e2 => ?_, gv ++ [.ref t1], upd_same, ?_⟩
                · have e3 := hgd.length
                  rw [List.length_map, List.length_append] at e3
                  have l1 : (((onesP ns t).take j).flatMap fun o => ((threesP ns t).filter fun c => decide (c ≤ o)).map fun c => (o, t.num, c)).length ≤ ((onesP ns t).take j).length * 8 := flat_len fun o' _ => by
                    rw [List.length_map]
                    have q1 := List.length_filter_le (fun c => decide (c ≤ o')) (threesP ns t)
                    have q2 := threesP_len ns t
                    omega
                  have l2 : ((onesP ns t).take j).length ≤ 8 := by
                    have q2 := onesP_len ns t
                    rw [List.length_take]
                    omega
                  have l3 : ((((threesP ns t).take l).filter fun c => decide (c ≤ o)).map fun c => (o, t.num, c)).length ≤ 8 := by
                    rw [List.length_map]
                    have q1 := List.length_filter_le (fun c => decide (c ≤ o)) ((threesP ns t).take l)
                    have q2 := threesP_len ns t
                    rw [List.length_take] at q1
                    omega
                  rw [e3]
                  exact small1000 (by omega)
                · rw [upd_ne (ne_of_none e2 nD3)]
                  exact s7 _ _ (s6 _ _ e2)
                · have tL := tups_upd_lst (o := .lst (gv ++ [.ref t1])) (s7 _ _ hg)
                  have tS := Same.tups s7
                  rw [tk, List.map_append (l₂ := [c]), ← List.append_assoc, List.map_append (f := t3D)]
                  refine DTs.append ((hgd.mono tS).mono tL) (.cons (DTs.t3 (t := (o, t.num, c)) ?_) .nil)
                  rw [upd_ne nt1D.symm, upd_same]
              · rw [decide_eq_false z]
                rw [decide_eq_false z, if_neg Bool.false_ne_true] at tk
                refine iteF ⟨s6, gv, hg, ?_⟩
                rw [tk]
                exact hgd
            · obtain ⟨s6, gv, hg, hgd⟩ := p6
              refine ⟨s6, gv, hg, ?_⟩
              rw [List.length_map, List.take_length] at hgd
              rw [take_snoc ho, flat_snoc]
              exact hgd
          · obtain ⟨s5, gv, hg, hgd⟩ := p5
            rw [List.length_map, List.take_length] at hgd
            have hgd2 : DTs H5 gv ((pivT ns t).map t3D) := hgd
            have hF5 := s5 _ _ hF4
            have nFD : Fd ≠ D3 := ne_of_none hF4 nD3
            have lf : fv.length ≤ 512 := by
              have e3 := hfv.length
              rw [List.length_map] at e3
              have q1 := pivF_len few (ys.take i)
              have q2 : (ys.take i).length ≤ 8 := by
                rw [List.length_take]
                omega
              omega
            have lg : gv.length ≤ 64 := by
              have e3 := hgd2.length
              rw [List.length_map] at e3
              have := pivT_len few t
              omega
            refine ⟨Fd, D3, fv, gv, rfl, rfl, hF5, hg, Nat.le_of_lt (small1000 (by omega)), ?_⟩
            have tF := tups_upd_lst (o := .lst (fv ++ gv)) hF5
            refine ⟨fv ++ gv, _, _, _, _, _, rfl, same_upd0 (sm4.trans s5) nF, ?_, upd_same, ?_⟩
            · rw [upd_ne npF]
              exact s5 _ _ hP4
            · have ep : pivF ns (ys.take (i + 1)) = pivF ns (ys.take i) ++ pivT ns t := by
                unfold pivF
                rw [take_snoc hy, flat_snoc, nodeOf_mem hN.nd ht]
              rw [ep, List.map_append]
              exact DTs.append ((hfv4.mono (Same.tups s5)).mono tF) (hgd2.mono tF)
    · obtain ⟨fv, o2, o3, o4, o5, o6, rfl, sm, hP, hF, hfv⟩ := pr
      rw [List.length_map, List.take_length] at hfv
      refine ⟨_, rfl, Fd, fv, pivF ns ys, rfl, SqL.of hF, hfv, fun zs p2 hz np2 => ?_⟩
      have s9 := same_upd (o := .lst zs) np2
      refine q _ p2 zs (sm.trans s9) (sm.free np2) upd_same ?_
      rw [← srt3_eq (piv_all hN.nd hp)]
      exact hz.mono (Same.tups s9)
end
end K46

set_option Elab.async false
set_option linter.all false
set_option maxRecDepth 100000
set_option maxHeartbeats 4000000
/-! K46J: _law_pivots. -/
namespace K46
open PySem PySem.Spec PyProof.Rows L2
section
variable {P : Program} {w : World} {K : PySem.W.Frag} {mg : Str → Option Value} {base : Heap}
theorem scLPiv : FnScope ["_law_nodes", "_law_found", "_law_two", "_law_ones", "_law_three", "_law_one"] ["_law_nodes"] (defScope sLPiv) := ⟨rfl, rfl, rfl, by decide +kernel, rfl, by decide +kernel, by decide +kernel⟩
theorem ok_lpiv {f fM : Addr} {fd fdM : FuncData} (F : FnP K "_law_pivots" sLPiv f fd) (GM : FnOk P w K mg base CX0 2 fM fdM ["_law_one", "_law_other"] (spNN missB)) (kM : PySem.W.keepIn K (.ref fM) = true) (bM : Binds K fdM ["_law_one", "_law_other"] []) (gM : mg "_law_misses" = some (.ref fM)) (mS : mg "sorted" = none) :
    FnOk P w K mg base CX0 3 f fd ["_law_nodes"] spPiv := by
  refine okN F scLPiv (fun vs H Q E h => ?_) (fun cdv A outer s H vs Q E hr h => ?_)
  · obtain ⟨a, kvs, ns, rfl, _⟩ := h
    rfl
  · obtain ⟨a, kvs, ns, rfl, hd, hN, q⟩ := h
    have hu := hu_of hr
    refine ⟨_, pss_cons (ps_set (i := 1) scLPiv.nd rfl (.inl rfl) (pe_lst pa_nil))
      (pss_cons (ps_lock (ps_for PassesOwn.never rfl (pi_keys (pv 0)) (pg_name (i := 2) scLPiv.nd rfl (.inr rfl))
        (pss_cons (ps_setLc (i := 3) (own := [("_law_one", 5)]) (g := gName 5) (te := tVar 5)
            (tt := tB (tCall (spNN missB) [] E0 (tCons (tDGet (tVar 0) (tVar 5)) (tCons (tDGet (tVar 0) (tVar 2)) tNil)))) rfl scLPiv.nd rfl rfl (sw_true rfl rfl rfl (by decide +kernel))
            (pi_keys (pv 0)) (blkOk_by (N := ["_law_nodes", "_law_found", "_law_two", "_law_ones", "_law_three", "_law_one"]) (sc := defScope sLPiv) (by decide +kernel)) (fun _ _ _ _ _ => pg_name (i := 5) scLPiv.nd rfl (.inl rfl))
            (fun _ _ _ _ _ => pts_one (pt_val (pe_call GM hr (by rfl) gM kM bM .nil pass0 (pa_cons (pe_dget hu (pv 0) (pv 5) (fun _ _ => rfl)) (pa_cons (pe_dget hu (pv 0) (pv 2) (fun _ _ => rfl)) pa_nil)))))
            (fun _ _ _ _ _ => pv 5))
        (pss_one (ps_for PassesOwn.never rfl (pi_keys (pv 0)) (pg_name (i := 4) scLPiv.nd rfl (.inr rfl))
          (pss_one (ps_if (PW.pt (pw_and (pt_cmpR op_lt (pv 4) (pv 2) (nomark _)) (pw_and1 (pt_val (pe_call GM hr (by rfl) gM kM bM .nil pass0 (pa_cons (pe_dget hu (pv 0) (pv 2) (fun _ _ => rfl)) (pa_cons (pe_dget hu (pv 0) (pv 4) (fun _ _ => rfl)) pa_nil)))))))
            (pss_one (ps_set (i := 1) scLPiv.nd rfl (.inl rfl) (pe_op op_cat (pv 1) (pe_lc (own := [("_law_one", 5)]) (g := gName 5) (te := tTup (tCons (tVar 5) (tCons (tVar 2) (tCons (tVar 4) tNil)))) (tt := tTest (tOp (rI0 fun i j => .bl (decide (i ≤ j))) (tVar 4) (tVar 5))) rfl scLPiv.nd
              (pi_list (pv 3)) (blkOk_by (N := ["_law_nodes", "_law_found", "_law_two", "_law_ones", "_law_three", "_law_one"]) (sc := defScope sLPiv) (by decide +kernel)) (fun _ _ _ _ _ => pg_name (i := 5) scLPiv.nd rfl (.inl rfl))
              (fun _ _ _ _ _ => pts_one (pt_cmpR op_le (pv 4) (pv 5) (nomark _)))
              (fun _ _ _ _ _ => pe_tup (pa_cons (pv 5) (pa_cons (pv 2) (pa_cons (pv 4) pa_nil)))))))) pss_nil)))))))
      (pss_one (ps_ret (pe_callB (cr_sorted3 hr.units) (by rfl) mS (by decide +kernel) (pa_cons (pv 1) pa_nil))))), ?_⟩
    have few := hN.few
    have kl : kvs.length = ns.length := paired_len hN.p
    -- found = []
    refine ⟨Nat.zero_le _, fun F0 nF => ?_⟩
    have s1 : Same H (upd H F0 (.lst [])) := same_upd nF
    have hd1 := s1 _ _ hd
    refine ⟨a, _, hd1, trivial, fun od => ?_⟩
    have N1 := (hN.mono (Same.tups s1)).mono (lock_tups (o := od) hd1)
    have naF : F0 ≠ a := fun z => by
      rw [z, hd] at nF
      cases nF
    -- for two in nodes
    refine ⟨_, rfl, a, od, rfl, .inl ⟨kvs, upd_same, ?_⟩⟩
    refine for_keys (d := a) (o := od) (kvs := kvs) (fun i σ H1 => ∃ Fd fv o2 o3 o4 o5, σ = [some (.ref a), some (.ref Fd), o2, o3, o4, o5] ∧ Same (upd (upd H F0 (.lst [])) a (.frz od (.dK kvs))) H1 ∧ H1 Fd = some (.lst fv) ∧ DTs H1 fv ((lpF ns (ns.take i)).map t3D))
      ⟨F0, [], none, none, none, none, rfl, Same.refl _, by rw [upd_ne naF, upd_same], .nil⟩ (fun i σ H1 _ ⟨_, _, _, _, _, _, _, h, _⟩ => h _ _ upd_same) (fun i k v σ H1 hk pr => ?_) (fun σ H1 pr => ?_)
    · obtain ⟨Fd, fv, o2, o3, o4, o5, rfl, sm, hF, hfv⟩ := pr
      obtain ⟨t, ht, rfl, htA0, htm⟩ := kv_at N1 hk
      obtain ⟨vt, et, htA⟩ := N1.get htm
      -- ones
      refine ⟨_, rfl, a, od, rfl, .inl ⟨kvs, sm _ _ upd_same, fun D nD => ?_⟩⟩
      have sD := same_upd (o := .lst []) nD
      refine walk_keys (d := a) (o := od) (kvs := kvs) (fun j H2 => Same H1 H2 ∧ H2 D = some (.lst (((ns.take j).filter fun n => missB n t).map fun n => V.int n.num)))
        ⟨sD, upd_same⟩ (fun j H2 _ p2 => p2.1 _ _ (sm _ _ upd_same)) (fun j k v H2 hk2 p2 => ?_) (fun H2 p2 => ?_)
      · obtain ⟨n, hn, rfl, hnA, hnm⟩ := kv_at N1 hk2
        obtain ⟨vn, en, hnA2⟩ := N1.get hnm
        have s12 := sm.trans p2.1
        have tk : (ns.take (j + 1)).filter (fun n => missB n t) = if missB n t = true then (ns.take j).filter (fun n => missB n t) ++ [n] else (ns.take j).filter (fun n => missB n t) := by
          rw [take_snoc hn, filter_snoc]
        have hr2 : Rd H2 a (.dK kvs) := .inr ⟨od, s12 _ _ upd_same⟩
        refine ⟨rfl, _, rfl, _, rfl, a, vn, rfl, dget_of hr2 en, _, rfl, _, rfl, a, vt, rfl, dget_of hr2 et, vn, vt, n, t, rfl, hnA2.mono (Same.tups s12), htA.mono (Same.tups s12), fun H3 sm3 => ⟨_, rfl, ?_⟩⟩
        cases e : missB n t with
        | true =>
          refine iteT ⟨_, rfl, _, sm3 _ _ p2.2, ?_, fun c o e2 => ?_, ?_⟩
          · have l2 := List.length_filter_le (fun n => missB n t) (ns.take j)
            rw [List.length_map]
            rw [List.length_take] at l2
            exact small1000 (by omega)
          · rw [upd_ne (ne_of_none e2 nD)]
            exact sm3 _ _ (p2.1 _ _ e2)
          · rw [upd_same, tk, e, if_pos rfl, List.map_append]
            rfl
        | false =>
          refine iteF ⟨fun c o e2 => sm3 _ _ (p2.1 _ _ e2), ?_⟩
          rw [tk, e, if_neg Bool.false_ne_true]
          exact sm3 _ _ p2.2
      · have eO := p2.2
        rw [kl, List.take_length] at eO
        have hO : H2 D = some (.lst ((onesL ns t).map V.int)) := by
          rw [eO]
          unfold onesL
          rw [List.map_map]
          rfl
        have s12 := sm.trans p2.1
        -- for three in nodes
        refine ⟨_, rfl, a, od, rfl, .inl ⟨kvs, s12 _ _ upd_same, ?_⟩⟩
        refine for_keys (d := a) (o := od) (kvs := kvs) (fun j σ H3 => ∃ Fd fv o4 o5, σ = [some (.ref a), some (.ref Fd), some (.int t.num), some (.ref D), o4, o5] ∧ Same H2 H3 ∧ H3 Fd = some (.lst fv) ∧ DTs H3 fv ((lpF ns (ns.take i) ++ (ns.take j).flatMap fun c => lpC ns t c).map t3D))
          ⟨Fd, fv, o4, o5, rfl, Same.refl _, p2.1 _ _ hF, by simpa using hfv.mono (Same.tups p2.1)⟩ (fun j σ H3 _ ⟨_, _, _, _, _, h, _⟩ => h _ _ (s12 _ _ upd_same)) (fun j k v σ H3 hk3 p3 => ?_) (fun σ H3 p3 => ?_)
        · obtain ⟨Fd, fv, o4, o5, rfl, sm3, hF3, hfv3⟩ := p3
          obtain ⟨c, hc, rfl, hcA, hcm⟩ := kv_at N1 hk3
          obtain ⟨vc, ec, hcA2⟩ := N1.get hcm
          have s13 := s12.trans sm3
          have tk : (ns.take (j + 1)).flatMap (fun c => lpC ns t c) = (ns.take j).flatMap (fun c => lpC ns t c) ++ lpC ns t c := by
            rw [take_snoc hc, flat_snoc]
          refine ⟨_, rfl, _, rfl, _, _, rfl, rfl, _, rfl, ?_⟩
          have no : ∀ (H4 : Hp) (x : Option V), Same H3 H4 → (decide (c.num < t.num) && missB t c) = false →
              ∃ Fd' fv' o4' o5', ([some (.ref a), some (.ref Fd), some (.int t.num), some (.ref D), x, o5] : L2.St) = [some (.ref a), some (.ref Fd'), some (.int t.num), some (.ref D), o4', o5'] ∧ Same H2 H4 ∧ H4 Fd' = some (.lst fv') ∧ DTs H4 fv' ((lpF ns (ns.take i) ++ (ns.take (j + 1)).flatMap fun c => lpC ns t c).map t3D) := by
            intro H4 x s4 e
            have e2 : lpC ns t c = [] := by
              unfold lpC
              rw [e, if_neg Bool.false_ne_true]
            refine ⟨Fd, fv, _, _, rfl, sm3.trans s4, s4 _ _ hF3, ?_⟩
            rw [tk, e2, List.append_nil]
            exact hfv3.mono (Same.tups s4)
          by_cases z : c.num < t.num
          · rw [decide_eq_true z]
            have hr3 : Rd H3 a (.dK kvs) := .inr ⟨od, s13 _ _ upd_same⟩
            refine iteT ⟨_, rfl, _, rfl, a, vt, rfl, dget_of hr3 et, _, rfl, _, rfl, a, vc, rfl, dget_of hr3 ec, vt, vc, t, c, rfl, htA.mono (Same.tups s13), hcA2.mono (Same.tups s13), fun H4 sm4 => ⟨_, rfl, ?_⟩⟩
            cases e : missB t c with
            | false => exact iteF (no H4 _ sm4 (by rw [e, Bool.and_false]))
            | true =>
              have e2 : lpC ns t c = ((onesL ns t).filter fun o => decide (c.num ≤ o)).map fun o => (o, t.num, c.num) := by
                unfold lpC
                rw [e, decide_eq_true z, Bool.true_and, if_pos rfl]
              have hO4 := sm4 _ _ (sm3 _ _ hO)
              have hF4 := sm4 _ _ hF3
              -- found = found + [..]
              refine iteT ⟨_, rfl, _, rfl, D, rfl, ⟨_, SqL.of hO4⟩, fun D3 nD3 => ?_⟩
              have sD3 := same_upd (o := .lst []) nD3
              refine walk_list (K := K) (a := D) (xs := (onesL ns t).map V.int) (fun l H6 => Same H4 H6 ∧ ∃ gv, H6 D3 = some (.lst gv) ∧ DTs H6 gv (((((onesL ns t).take l).filter fun o => decide (c.num ≤ o)).map fun o => (o, t.num, c.num)).map t3D))
                ⟨sD3, [], upd_same, .nil⟩ (fun l H6 _ p6 => SqL.of (p6.1 _ _ hO4)) (fun l x6 H6 hx6 p6 => ?_) (fun H6 p6 => ?_)
              · obtain ⟨o, ho, rfl⟩ := ints_get hx6
                obtain ⟨s6, gv, hg, hgd⟩ := p6
                have tk6 : ((onesL ns t).take (l + 1)).filter (fun o => decide (c.num ≤ o)) = if decide (c.num ≤ o) = true then ((onesL ns t).take l).filter (fun o => decide (c.num ≤ o)) ++ [o] else ((onesL ns t).take l).filter (fun o => decide (c.num ≤ o)) := by
                  rw [take_snoc ho, filter_snoc]
                refine ⟨rfl, _, rfl, _, rfl, _, _, rfl, rfl, _, rfl, ?_⟩
                by_cases y : c.num ≤ o
                · rw [decide_eq_true y]
                  rw [decide_eq_true y, if_pos rfl] at tk6
                  refine iteT ⟨_, rfl, _, rfl, _, rfl, (by show 3 ≤ sizeLine; decide), fun t1 nt1 => ?_⟩
                  have s7 := same_upd (o := .tup [V.int o, V.int t.num, V.int c.num]) nt1
                  have nt1D : D3 ≠ t1 := ne_of_none hg nt1
                  refine ⟨gv, s7 _ _ hg, ?_, fun b u e2 => ?_, gv ++ [.ref t1], upd_same, ?_⟩
                  · have e3 := hgd.length
                    rw [List.length_map, List.length_map] at e3
                    have q1 := List.length_filter_le (fun o => decide (c.num ≤ o)) ((onesL ns t).take l)
                    have q2 : (onesL ns t).length ≤ ns.length := by
                      rw [← ones_eq]
                      exact onesP_len ns t
                    rw [List.length_take] at q1
                    exact small1000 (by omega)
                  · rw [upd_ne (ne_of_none e2 nD3)]
                    exact s7 _ _ (s6 _ _ e2)
                  · have tL := tups_upd_lst (o := .lst (gv ++ [.ref t1])) (s7 _ _ hg)
                    have tS := Same.tups s7
                    rw [tk6, List.map_append (l₂ := [o]), List.map_append (f := t3D)]
                    refine DTs.append ((hgd.mono tS).mono tL) (.cons (DTs.t3 (t := (o, t.num, c.num)) ?_) .nil)
                    rw [upd_ne nt1D.symm, upd_same]
                    rfl
                · rw [decide_eq_false y]
                  rw [decide_eq_false y, if_neg Bool.false_ne_true] at tk6
                  refine iteF ⟨s6, gv, hg, ?_⟩
                  rw [tk6]
                  exact hgd
              · obtain ⟨s6, gv, hg, hgd⟩ := p6
                rw [List.length_map, List.take_length, ← e2] at hgd
                have hF6 := s6 _ _ hF4
                have lf : fv.length ≤ 600 := by
                  have e3 := hfv3.length
                  rw [List.length_map, List.length_append] at e3
                  have q1 := lpF_len few (ns.take i)
                  have q2 : (ns.take i).length ≤ 8 := by
                    rw [List.length_take]
                    omega
                  have q3 : ((ns.take j).flatMap fun c => lpC ns t c).length ≤ (ns.take j).length * 8 := flat_len fun c _ => lpC_len few t c
                  have q4 : (ns.take j).length ≤ 8 := by
                    rw [List.length_take]
                    omega
                  omega
                have lg : gv.length ≤ 8 := by
                  have e3 := hgd.length
                  rw [List.length_map] at e3
                  have := lpC_len few t c
                  omega
                refine ⟨Fd, D3, fv, gv, rfl, rfl, hF6, hg, Nat.le_of_lt (small1000 (by omega)), fun p4 np4 => ?_⟩
                have s8 := same_upd (o := .lst (fv ++ gv)) np4
                refine ⟨p4, fv ++ gv, _, _, rfl, sm3.trans (sm4.trans (s6.trans s8)), upd_same, ?_⟩
                rw [tk, ← List.append_assoc, List.map_append (f := t3D)]
                exact DTs.append (hfv3.mono (Same.tups (sm4.trans (s6.trans s8)))) (hgd.mono (Same.tups s8))
          · rw [decide_eq_false z]
            exact iteF (iteF (no H3 _ (Same.refl _) (by rw [decide_eq_false z, Bool.false_and])))
        · obtain ⟨Fd, fv, o4, o5, rfl, sm3, hF3, hfv3⟩ := p3
          rw [kl, List.take_length] at hfv3
          refine ⟨Fd, fv, _, _, _, _, rfl, s12.trans sm3, hF3, ?_⟩
          have ep : lpF ns (ns.take (i + 1)) = lpF ns (ns.take i) ++ ns.flatMap fun c => lpC ns t c := by
            unfold lpF
            rw [take_snoc ht, flat_snoc]
            rfl
          rw [ep]
          exact hfv3
    · obtain ⟨Fd, fv, o2, o3, o4, o5, rfl, sm, hF, hfv⟩ := pr
      rw [kl, List.take_length] at hfv
      have sU := s1.trans (unlock hd1 sm)
      have naFd : Fd ≠ a := fun z => by
        rw [z, sm _ _ upd_same] at hF
        cases hF
      have tU : Tups H1 (upd H1 a (.dK kvs)) := fun b xs e => by
        rw [upd_ne (fun z => by rw [z, sm _ _ upd_same] at e; cases e)]
        exact e
      have hF2 : (upd H1 a (.dK kvs)) Fd = some (.lst fv) := by
        rw [upd_ne naFd]
        exact hF
      refine ⟨sm _ _ upd_same, _, rfl, Fd, fv, lpF ns ns, rfl, SqL.of hF2, hfv.mono tU, fun zs p2 hz np2 => ?_⟩
      have s9 := same_upd (o := .lst zs) np2
      exact q _ p2 zs (sU.trans s9) (sU.free np2) upd_same (hz.mono (Same.tups s9))
end
end K46

set_option Elab.async false
set_option linter.all false
set_option maxRecDepth 100000
set_option maxHeartbeats 4000000
/-! K46K: _law_same, of equal data. -/
namespace K46
open PySem PySem.Spec PyProof.Rows L2
/-- equal data stands as both: whole numbers, lists, tuples, k deep -/
def SD (H : Hp) : Nat → V → V → Prop
  | 0, _, _ => False
  | k + 1, x, y => (∃ i, x = .int i ∧ y = .int i) ∨ ∃ a b xs ys, x = .ref a ∧ y = .ref b ∧ ((H a = some (.lst xs) ∧ H b = some (.lst ys)) ∨ (H a = some (.tup xs) ∧ H b = some (.tup ys))) ∧ xs.length = ys.length ∧ xs.length ≤ 1000 ∧ ∀ (i : Nat) u v, xs[i]? = some u → ys[i]? = some v → SD H k u v
theorem SD.mono {H H' : Hp} (s : Same H H') : ∀ {k : Nat} {x y : V}, SD H k x y → SD H' k x y
  | 0, _, _, h => h.elim
  | k + 1, x, y, h => by
    rcases h with h | ⟨a, b, xs, ys, e1, e2, c, l1, l2, it⟩
    · exact .inl h
    · refine .inr ⟨a, b, xs, ys, e1, e2, ?_, l1, l2, fun i u v h1 h2 => SD.mono s (it i u v h1 h2)⟩
      rcases c with ⟨c1, c2⟩ | ⟨c1, c2⟩
      · exact .inl ⟨s _ _ c1, s _ _ c2⟩
      · exact .inr ⟨s _ _ c1, s _ _ c2⟩
def spSame (k : Nat) : Sp := fun vs H Q _ => ∃ x y, vs = [x, y] ∧ SD H k x y ∧ ∀ H', Same H H' → Q (.bl true) H'
section
variable {P : Program} {w : World} {K : PySem.W.Frag} {mg : Str → Option Value} {base : Heap}
theorem scSame : FnScope ["_law_found", "_law_due", "_law_k"] ["_law_found", "_law_due"] (defScope sSame) := ⟨rfl, rfl, rfl, by decide +kernel, rfl, by decide +kernel, by decide +kernel⟩
structure TxSame (mg : Str → Option Value) : Prop where
  isi : mg "isinstance" = none
  bool : mg "bool" = none
  int : mg "int" = none
  str : mg "str" = none
  list : mg "list" = none
  tuple : mg "tuple" = none
  len : mg "len" = none
  all : mg "all" = none
  range : mg "range" = none
theorem ok_same {f : Addr} {fd : FuncData} (F : FnP K "_law_same" sSame f fd) (b : Binds K fd ["_law_found", "_law_due"] []) (g : mg "_law_same" = some (.ref f)) (T : TxSame mg) : ∀ k : Nat, FnOk P w K mg base CX0 k f fd ["_law_found", "_law_due"] (spSame k)
  | 0 => ⟨fun vs H Q E h => by obtain ⟨x, y, _, h, _⟩ := h; exact h.elim, fun A outer s H args us vs Q E hr e0 hb hv h => by obtain ⟨x, y, _, h, _⟩ := h; exact h.elim⟩
  | k + 1 => by
    have G := ok_same F b g T k
    refine okN F scSame (fun vs H Q E h => ?_) (fun cdv A outer s H vs Q E hr h => ?_)
    · obtain ⟨x, y, rfl, _⟩ := h
      rfl
    · obtain ⟨x, y, rfl, hd, q⟩ := h
      refine ⟨_, pss_cons (ps_if (pt_cmpR op_isN (pv 1) pe_non (nomark _)) (pss_one (ps_ret (pe_cmpR op_isN (pv 0) pe_non (nomark _)))) pss_nil)
        (pss_cons (ps_if (pt_val (pe_callB call_isi (by rfl) T.isi (by decide +kernel) (pa_cons (pv 1) (pa_cons (pe_bltn (v := .ty "bool") (by rfl) T.bool (by decide +kernel) rfl) pa_nil)))) (pss_one ps_never) pss_nil)
        (pss_cons (ps_if (pt_val (pe_callB call_isi (by rfl) T.isi (by decide +kernel) (pa_cons (pv 1) (pa_cons (pe_bltn (v := .ty "int") (by rfl) T.int (by decide +kernel) rfl) pa_nil))))
          (pss_one (ps_ret (pe_and (pe_callB call_isi (by rfl) T.isi (by decide +kernel) (pa_cons (pv 0) (pa_cons (pe_bltn (v := .ty "int") (by rfl) T.int (by decide +kernel) rfl) pa_nil)))
            (pe_and (pe_not (pe_callB call_isi (by rfl) T.isi (by decide +kernel) (pa_cons (pv 0) (pa_cons (pe_bltn (v := .ty "bool") (by rfl) T.bool (by decide +kernel) rfl) pa_nil))))
              (pe_one (pe_cmpR op_eq (pv 0) (pv 1) (nomark _))))))) pss_nil)
        (pss_cons (ps_if (pt_val (pe_callB call_isi (by rfl) T.isi (by decide +kernel) (pa_cons (pv 1) (pa_cons (pe_bltn (v := .ty "str") (by rfl) T.str (by decide +kernel) rfl) pa_nil)))) (pss_one ps_never) pss_nil)
        (pss_cons (ps_if (PW.pt (pw_or (pt_cmpR op_ne (pe_callB call_isi (by rfl) T.isi (by decide +kernel) (pa_cons (pv 1) (pa_cons (pe_bltn (v := .ty "list") (by rfl) T.list (by decide +kernel) rfl) pa_nil))) (pe_callB call_isi (by rfl) T.isi (by decide +kernel) (pa_cons (pv 0) (pa_cons (pe_bltn (v := .ty "list") (by rfl) T.list (by decide +kernel) rfl) pa_nil))) (nomark _))
            (pw_or1 (pt_cmpR op_ne (pe_callB call_isi (by rfl) T.isi (by decide +kernel) (pa_cons (pv 1) (pa_cons (pe_bltn (v := .ty "tuple") (by rfl) T.tuple (by decide +kernel) rfl) pa_nil))) (pe_callB call_isi (by rfl) T.isi (by decide +kernel) (pa_cons (pv 0) (pa_cons (pe_bltn (v := .ty "tuple") (by rfl) T.tuple (by decide +kernel) rfl) pa_nil))) (nomark _)))))
          (pss_one (ps_ret pe_bl)) pss_nil)
        (pss_one (ps_ret (pe_and (pe_cmpR op_eq (pe_callB call_len_seq (by rfl) T.len PySem.boot_len (pa_cons (pv 0) pa_nil)) (pe_callB call_len_seq (by rfl) T.len PySem.boot_len (pa_cons (pv 1) pa_nil)) (nomark _))
          (pe_one (pe_callB (cr_all rfl) (by rfl) T.all (by decide +kernel) (pa_cons (pe_lc (own := [("_law_k", 2)]) (g := gName 2) (tt := tYes)
            (te := tCall (spSame k) [] E0 (tCons (tOp (rIx K) (tVar 0) (tVar 2)) (tCons (tOp (rIx K) (tVar 1) (tVar 2)) tNil))) rfl scSame.nd
            (pi_range1 (by rfl) T.range (pa_cons (pe_callB call_len_seq (by rfl) T.len PySem.boot_len (pa_cons (pv 1) pa_nil)) pa_nil)) (blkOk_by (N := ["_law_found", "_law_due", "_law_k"]) (sc := defScope sSame) (by decide +kernel))
            (fun _ _ _ _ _ => pg_name (i := 2) scSame.nd rfl (.inl rfl)) (fun _ _ _ _ _ => pts_nil)
            (fun _ _ _ _ _ => pe_call G hr (by rfl) g F.kp b .nil pass0 (pa_cons (pe_ix ix_seq (pv 0) (pv 2) (fun _ _ => rfl)) (pa_cons (pe_ix ix_seq (pv 1) (pv 2) (fun _ _ => rfl)) pa_nil)))) pa_nil)))))))))), ?_⟩
      rcases hd with ⟨i, rfl, rfl⟩ | ⟨a, c, xs, ys, rfl, rfl, hk, hl, hl2, it⟩
      · refine ⟨_, rfl, rfl, _, rfl, iteF ?_⟩
        refine ⟨_, rfl, _, .ty "bool", .type "int", .type "bool", false, rfl, .ty _, .base (.int i), kit_ty (by decide +kernel), _, rfl, iteF ?_⟩
        refine ⟨_, rfl, _, .ty "int", .type "int", .type "int", true, rfl, .ty _, .base (.int i), kit_ty (by decide +kernel), _, rfl, iteT ?_⟩
        refine ⟨_, rfl, _, .ty "int", .type "int", .type "int", true, rfl, .ty _, .base (.int i), kit_ty (by decide +kernel), _, rfl, iteT ?_⟩
        refine ⟨_, rfl, _, .ty "bool", .type "int", .type "bool", false, rfl, .ty _, .base (.int i), kit_ty (by decide +kernel), _, rfl, _, rfl, iteT ?_⟩
        refine ⟨_, rfl, _, rfl, rfl, ?_⟩
        rw [decide_eq_true rfl]
        exact q H (Same.refl H)
      · obtain ⟨t, b1, b2, ta, tc, k1, k2, k3, k4, k5, sa, sc⟩ : ∃ (t : Value) (b1 b2 : Bool), TyX K H (.ref a) t ∧ TyX K H (.ref c) t ∧ PySem.W.kitOne K t (.type "bool") = some false ∧ PySem.W.kitOne K t (.type "int") = some false ∧ PySem.W.kitOne K t (.type "str") = some false ∧
            PySem.W.kitOne K t (.type "list") = some b1 ∧ PySem.W.kitOne K t (.type "tuple") = some b2 ∧ (SqL K H a xs ∨ SqT K H a xs) ∧ (SqL K H c ys ∨ SqT K H c ys) := by
          rcases hk with ⟨ha, hc⟩ | ⟨ha, hc⟩
          · exact ⟨.type "list", true, false, .base (.lst ha), .base (.lst hc), kit_ty (by decide +kernel), kit_ty (by decide +kernel), kit_ty (by decide +kernel), kit_ty (by decide +kernel), kit_ty (by decide +kernel), .inl (SqL.of ha), .inl (SqL.of hc)⟩
          · exact ⟨.type "tuple", false, true, .base (.tup ha), .base (.tup hc), kit_ty (by decide +kernel), kit_ty (by decide +kernel), kit_ty (by decide +kernel), kit_ty (by decide +kernel), kit_ty (by decide +kernel), .inr (SqT.of ha), .inr (SqT.of hc)⟩
        refine ⟨_, rfl, rfl, _, rfl, iteF ?_⟩
        refine ⟨_, rfl, _, .ty "bool", t, .type "bool", false, rfl, .ty _, tc, k1, _, rfl, iteF ?_⟩
        refine ⟨_, rfl, _, .ty "int", t, .type "int", false, rfl, .ty _, tc, k2, _, rfl, iteF ?_⟩
        refine ⟨_, rfl, _, .ty "str", t, .type "str", false, rfl, .ty _, tc, k3, _, rfl, iteF ?_⟩
        refine ⟨_, rfl, _, .ty "list", t, .type "list", b1, rfl, .ty _, tc, k4, _, rfl, _, .ty "list", t, .type "list", b1, rfl, .ty _, ta, k4, (by cases b1 <;> rfl), _, rfl, ?_⟩
        rw [decide_eq_true rfl]
        refine iteF ⟨_, rfl, _, .ty "tuple", t, .type "tuple", b2, rfl, .ty _, tc, k5, _, rfl, _, .ty "tuple", t, .type "tuple", b2, rfl, .ty _, ta, k5, (by cases b2 <;> rfl), _, rfl, ?_⟩
        rw [decide_eq_true rfl]
        refine iteF ⟨_, rfl, a, xs, rfl, sa, _, rfl, c, ys, rfl, sc, rfl, _, rfl, ?_⟩
        rw [hl, decide_eq_true rfl]
        refine iteT ⟨_, rfl, c, ys, rfl, sc, (ys.length : Int), rfl, by omega, by omega, fun D nD => ?_⟩
        have sq : ∀ {H' : Hp} {z : Addr} {zs : List V}, Same H H' → (SqL K H z zs ∨ SqT K H z zs) → (SqL K H' z zs ∨ SqT K H' z zs) := by
          intro H' z zs sm h
          rcases h with h | (h | ⟨o, h⟩) | h
          · exact .inl (Same.seq sm h)
          · exact .inr (.inl (.inl (sm _ _ h)))
          · exact .inr (.inl (.inr ⟨o, sm _ _ h⟩))
          · exact .inr (.inr h)
        have ixr : ∀ {H' : Hp} {z : Addr} {zs : List V} {i : Nat} {v : V} {Q' : VK}, Same H H' → (SqL K H z zs ∨ SqT K H z zs) → zs[i]? = some v → Q' v H' → rIx K (.ref z) (.int (0 + (i : Int))) H' Q' := by
          intro H' z zs i v Q' sm h e hq
          have e0 : (0 + (i : Int)) = (i : Int) := by omega
          rw [e0]
          rcases sq sm h with h | h
          · exact .inl ⟨z, zs, i, v, rfl, rfl, h, atI_nat e, hq⟩
          · exact .inr (.inl ⟨z, zs, i, v, rfl, rfl, h, atI_nat e, hq⟩)
        refine walk_range (lo := 0) (n := (ys.length : Int).toNat) (fun i H' => Same H H' ∧ H' D = some (.lst ((List.replicate i true).map V.bl))) ⟨same_upd nD, upd_same⟩ (fun i H' hi p => ?_) (fun H' p => ?_)
        · have hi2 : i < ys.length := by simpa using hi
          have hi1 : i < xs.length := by omega
          have g1 : xs[i]? = some xs[i] := List.getElem?_eq_getElem hi1
          have g2 : ys[i]? = some ys[i] := List.getElem?_eq_getElem hi2
          refine ⟨rfl, _, rfl, _, rfl, ixr p.1 sa g1 ⟨_, rfl, _, rfl, ixr p.1 sc g2 ⟨_, _, rfl, SD.mono p.1 (it i _ _ g1 g2), fun H2 sm2 => ?_⟩⟩⟩
          refine ⟨_, sm2 _ _ p.2, ?_, fun z o e => ?_, ?_⟩
          · rw [List.length_map, List.length_replicate]
            exact small1000 (by omega)
          · rw [upd_ne (ne_of_none e nD)]
            exact sm2 _ _ (p.1 _ _ e)
          · rw [upd_same, List.replicate_succ', List.map_append]
            rfl
        · refine ⟨D, _, rfl, SqL.of p.2, ?_⟩
          have e : (List.replicate (ys.length : Int).toNat true).all id = true := by
            rw [List.all_eq_true]
            intro x hx
            rw [List.eq_of_mem_replicate hx]
            rfl
          rw [e]
          exact q H' p.1
end
end K46

set_option Elab.async false
set_option linter.all false
set_option maxRecDepth 100000
set_option maxHeartbeats 4000000
/-! K46L: _law_well, _law_dip, _law_word. -/
namespace K46
open PySem PySem.Spec PyProof.Rows L2
/-- a well stands at a, of at most b draws -/
def WellAt (H : Hp) (a : Addr) (b : Nat) : Prop := ∃ x y z : Int, H a = some (.lst [.int x, .int y, .int z]) ∧ 0 ≤ y ∧ y < 2147483648 ∧ 0 ≤ z ∧ z ≤ (b : Int)
theorem WellAt.more {H : Hp} {a : Addr} {b c : Nat} (h : WellAt H a b) (l : b ≤ c) : WellAt H a c := by
  obtain ⟨x, y, z, e, h1, h2, h3, h4⟩ := h
  exact ⟨x, y, z, e, h1, h2, h3, by omega⟩
theorem WellAt.same {H H' : Hp} {a : Addr} {b : Nat} (h : WellAt H a b) (s : Same H H') : WellAt H' a b := by
  obtain ⟨x, y, z, e, h1⟩ := h
  exact ⟨x, y, z, s _ _ e, h1⟩
theorem WellAt.ne {H : Hp} {a p : Addr} {b : Nat} (h : WellAt H a b) (n : H p = none) : a ≠ p := by
  obtain ⟨x, y, z, e, h1⟩ := h
  exact ne_of_none e n
theorem KeepW.tups {H H' : Hp} {a : Addr} {b : Nat} (k : KeepW a H H') (h : WellAt H a b) : Tups H H' := fun c xs e => by
  obtain ⟨x, y, z, e2, h1⟩ := h
  exact k c _ e fun q => by
    rw [q, e2] at e
    cases e
theorem KeepW.free {H H' : Hp} {a p : Addr} {b c : Nat} (k : KeepW a H H') (h : WellAt H a b) (h' : WellAt H' a c) (n : H' p = none) : H p = none := by
  cases q : H p with
  | none => rfl
  | some o =>
    have := k p o q fun e => by
      obtain ⟨x, y, z, e2, _⟩ := h'
      rw [e, e2] at n
      cases n
    rw [n] at this
    cases this
theorem fm {i j : Int} (h : 0 < j) : 0 ≤ i.fmod j ∧ i.fmod j < j := by
  rw [Int.fmod_eq_emod_of_nonneg _ (Int.le_of_lt h)]
  exact ⟨Int.emod_nonneg _ (by omega), Int.emod_lt_of_pos _ h⟩
/-- the signs of a text are told with at most ten signs each -/
def okC (x : Str) : Bool := x.cps.toList.all fun c => decide (c < 16 ^ 8)
/-- a text's length, made great where a sign is not told with ten signs -/
def sl (x : Str) : Nat := x.length + (if okC x = true then 0 else 1000000)
theorem sl_len (x : Str) : x.length ≤ sl x := Nat.le_add_right _ _
theorem sl_of {x : Str} (h : okC x = true) : sl x = x.length := by
  unfold sl
  rw [if_pos h]
  rfl
theorem sl_ok {x : Str} (h : sl x ≤ 1000) : okC x = true := by
  cases e : okC x with
  | true => rfl
  | false =>
    unfold sl at h
    rw [e, if_neg Bool.false_ne_true] at h
    omega
theorem okC_app (x y : Str) : okC (x ++ y) = (okC x && okC y) := by
  show ((x.cps ++ y.cps).toList.all fun c => decide (c < 16 ^ 8)) = _
  rw [Array.toList_append, List.all_append]
  rfl
theorem sl_app (x y : Str) : sl (x ++ y) ≤ sl x + sl y := by
  unfold sl
  rw [Str.length_append, okC_app]
  cases okC x <;> cases okC y <;> simp <;> omega
theorem glued_ok : ∀ (ys : List Str), (∀ y, y ∈ ys → okC y = true) → okC (Str.join "" ys) = true
  | [], _ => rfl
  | [y], h => h y List.mem_cons_self
  | y :: z :: r, h => by
    have ih := glued_ok (z :: r) fun u hu => h u (List.mem_cons_of_mem _ hu)
    have e : Str.join "" (y :: z :: r) = y ++ (Str.ofString "") ++ Str.join "" (z :: r) := rfl
    rw [e, okC_app, okC_app, h y List.mem_cons_self, ih]
    rfl
theorem glued_len : ∀ (ys : List Str), (∀ y, y ∈ ys → y.length ≤ 1) → (Str.join "" ys).length ≤ ys.length
  | [], _ => by
    show (Str.ofString "").length ≤ 0
    decide
  | [y], h => by
    show y.length ≤ 1
    exact h y List.mem_cons_self
  | y :: z :: r, h => by
    have ih := glued_len (z :: r) fun u hu => h u (List.mem_cons_of_mem _ hu)
    have e : Str.join "" (y :: z :: r) = y ++ (Str.ofString "") ++ Str.join "" (z :: r) := rfl
    have h1 := h y List.mem_cons_self
    have e0 : (Str.ofString "").length = 0 := by decide
    rw [e, Str.length_append, Str.length_append, e0]
    simp only [List.length_cons] at ih ⊢
    omega
def signs : Str := " !\"#$&'()*+,-./0123456789:;<=>?@ABCDEFGHIJKLMNOPQRSTUVWXYZ[\\]^_`abcdefghijklmnopqrstuvwxyz{|}~"
theorem signs_len : signs.cps.toList.length = 94 := by decide +kernel
theorem signs_ok : ∀ c, c ∈ signs.cps.toList → c < 16 ^ 8 := by
  have h : (signs.cps.toList.all fun c => decide (c < 16 ^ 8)) = true := by decide +kernel
  exact fun c hc => of_decide_eq_true (List.all_eq_true.mp h c hc)
theorem signs_short : signs.length ≤ sizeLine := by
  have : signs.length = 94 := by decide +kernel
  rw [this]
  decide
section
variable {P : Program} {w : World} {K : PySem.W.Frag} {mg : Str → Option Value} {base : Heap}
def spWell : Sp := fun vs H Q _ => ∃ c : Int, vs = [.int c] ∧ ∀ (H' : Hp) (p : Addr), Same H H' → H p = none → WellAt H' p 0 → Q (.ref p) H'
theorem scWell : FnScope ["_law_cell"] ["_law_cell"] (defScope sWell) := ⟨rfl, rfl, rfl, by decide +kernel, rfl, by decide +kernel, by decide +kernel⟩
theorem ok_well {f : Addr} {fd : FuncData} (F : FnP K "_law_well" sWell f fd) (mi : mg "int" = none) : FnOk P w K mg base CX0 1 f fd ["_law_cell"] spWell := by
  refine okN F scWell (fun vs H Q E h => ?_) (fun cdv A outer s H vs Q E hr h => ?_)
  · obtain ⟨c, rfl, _⟩ := h
    rfl
  · obtain ⟨c, rfl, q⟩ := h
    refine ⟨_, pss_cons (ps_set (i := 0) scWell.nd rfl (.inl rfl) (pe_callTy call_int1 (by rfl) mi (by decide +kernel) (pa_cons (pv 0) pa_nil)))
      (pss_one (ps_ret (pe_lst (pa_cons (pe_ifExp (pt_cmpR op_ge (pv 0) (pe_op op_pow pe_int pe_int) (nomark _)) (pe_op op_sub (pv 0) (pe_op op_pow pe_int pe_int)) pe_int)
        (pa_cons (pe_op op_add (pe_op op_modN (pv 0) pe_int) pe_int) (pa_cons pe_int pa_nil)))))), ?_⟩
    refine ⟨_, rfl, .inl ⟨c, rfl, ?_⟩⟩
    have fin : ∀ x : Int, (tCons (tOp (rI0 fun i j => .int (i + j)) (tOp (rI (fun _ j => j ≠ 0) fun i j => .int (i.fmod j)) (tVar 0) (tC (.int 1999999973))) (tC (.int 17))) (tCons (tC (.int 0)) tNil)) [some (.int c)] H fun xs H1 => (V.int x :: xs).length ≤ sizeLine ∧ ∀ p, H1 p = none → Q (.ref p) (upd H1 p (.lst (V.int x :: xs))) := by
      intro x
      refine ⟨_, rfl, c, _, rfl, rfl, (show (1999999973 : Int) ≠ 0 by decide), _, _, rfl, rfl, (by show 3 ≤ sizeLine; decide), fun p np => ?_⟩
      have h := fm (i := c) (j := 1999999973) (by decide)
      exact q _ p (same_upd np) np ⟨x, c.fmod 1999999973 + 17, 0, upd_same, by omega, by omega, by omega, by omega⟩
    refine ⟨_, rfl, _, _, rfl, rfl, ⟨by decide, by decide, by decide⟩, _, _, rfl, rfl, _, rfl, ?_⟩
    refine ite2 (fun _ => ?_) (fun _ => ?_)
    · exact ⟨_, rfl, _, _, rfl, rfl, ⟨by decide, by decide, by decide⟩, _, _, rfl, rfl, fin _⟩
    · exact fin _
def spDip : Sp := fun vs H Q _ => ∃ a b m, vs = [.ref a, .int m] ∧ WellAt H a b ∧ b ≤ 1000000 ∧ 0 < m ∧ m < 536870912 ∧ ∀ (H' : Hp) (r : Int), KeepW a H H' → WellAt H' a (b + 1) → 0 ≤ r → r < m → Q (.int r) H'
theorem scDip : FnScope ["_law_well_here", "_law_many", "_law_drop"] ["_law_well_here", "_law_many"] (defScope sDip) := ⟨rfl, rfl, rfl, by decide +kernel, rfl, by decide +kernel, by decide +kernel⟩
theorem ok_dip {f : Addr} {fd : FuncData} (F : FnP K "_law_dip" sDip f fd) (mi : mg "int" = none) : FnOk P w K mg base CX0 1 f fd ["_law_well_here", "_law_many"] spDip := by
  refine okN F scDip (fun vs H Q E h => ?_) (fun cdv A outer s H vs Q E hr h => ?_)
  · obtain ⟨a, b, m, rfl, _⟩ := h
    rfl
  · obtain ⟨a, b, m, rfl, ⟨x, y, z, ha, y0, y1, z0, z1⟩, hb, m0, m1, q⟩ := h
    refine ⟨_, pss_cons (ps_if (pt_cmpR op_gt (pe_ix ix_list (pv 0) pe_int (fun _ _ => rfl)) pe_int (nomark _))
        (pss_cons (ps_set (i := 2) scDip.nd rfl (.inl rfl) (pe_op op_modN (pe_callTy call_int1 (by rfl) mi (by decide +kernel) (pa_cons (pe_ix ix_list (pv 0) pe_int (fun _ _ => rfl)) pa_nil)) (pv 1)))
        (pss_cons (ps_asg (pe_op op_fdivN (pe_callTy call_int1 (by rfl) mi (by decide +kernel) (pa_cons (pe_ix ix_list (pv 0) pe_int (fun _ _ => rfl)) pa_nil)) (pv 1)) (pg_sub (pv 0) pe_int set_list))
        (pss_one (ps_ret (pv 2))))) pss_nil)
      (pss_cons (ps_asg (pe_op op_add (pe_ix ix_list (pv 0) pe_int (fun _ _ => rfl)) pe_int) (pg_sub (pv 0) pe_int set_list))
      (pss_cons (ps_asg (pe_op op_modN (pe_callTy call_int1 (by rfl) mi (by decide +kernel) (pa_cons (pe_op op_add (pe_op op_add (pe_op op_mul (pe_ix ix_list (pv 0) pe_int (fun _ _ => rfl)) pe_int)
          (pe_op op_mul (pe_op op_mul (pe_ix ix_list (pv 0) pe_int (fun _ _ => rfl)) (pe_ix ix_list (pv 0) pe_int (fun _ _ => rfl))) pe_int)) pe_int) pa_nil)) pe_int) (pg_sub (pv 0) pe_int set_list))
      (pss_one (ps_ret (pe_op op_modN (pe_op op_fdivN (pe_op op_modN (pe_callTy call_int1 (by rfl) mi (by decide +kernel) (pa_cons (pe_op op_mul (pe_ix ix_list (pv 0) pe_int (fun _ _ => rfl)) (pe_ix ix_list (pv 0) pe_int (fun _ _ => rfl))) pa_nil)) pe_int) pe_int) (pv 1)))))), ?_⟩
    refine ⟨_, rfl, a, _, 0, _, rfl, rfl, SqL.of ha, atI_nat (j := 0) rfl, _, _, rfl, rfl, _, rfl, ?_⟩
    refine ite2 (fun _ => ?_) (fun _ => ?_)
    · refine ⟨_, rfl, a, _, 0, _, rfl, rfl, SqL.of ha, atI_nat (j := 0) rfl, .inl ⟨x, rfl, _, rfl, _, _, rfl, rfl, (by omega), ?_⟩⟩
      refine ⟨_, rfl, a, _, 0, _, rfl, rfl, SqL.of ha, atI_nat (j := 0) rfl, .inl ⟨x, rfl, _, rfl, _, _, rfl, rfl, ⟨by omega, by omega⟩, _, rfl, a, _, 0, 0, rfl, rfl, ha, rfl, ?_⟩⟩
      have h := fm (i := x) (j := m) m0
      exact ⟨_, rfl, q _ _ KeepW.upd ⟨_, y, z, upd_same, y0, y1, z0, by omega⟩ h.1 h.2⟩
    · refine ⟨_, rfl, a, _, 2, _, rfl, rfl, SqL.of ha, atI_nat (j := 2) rfl, _, _, rfl, rfl, _, rfl, a, _, 2, 2, rfl, rfl, ha, rfl, ?_⟩
      have h1 : (upd H a (.lst ([V.int x, V.int y, V.int z].set 2 (V.int (z + 1))))) a = some (.lst [.int x, .int y, .int (z + 1)]) := upd_same
      refine ⟨_, rfl, a, _, 1, _, rfl, rfl, SqL.of h1, atI_nat (j := 1) rfl, _, _, rfl, rfl, .inl ⟨by omega, by omega⟩, ?_⟩
      refine ⟨_, rfl, a, _, 2, _, rfl, rfl, SqL.of h1, atI_nat (j := 2) rfl, _, rfl, a, _, 2, _, rfl, rfl, SqL.of h1, atI_nat (j := 2) rfl, _, _, rfl, rfl, .inl ⟨by omega, by omega⟩, _, _, rfl, rfl, .inr ⟨by decide, by decide⟩, _, _, rfl, rfl, _, _, rfl, rfl, ?_⟩
      refine .inl ⟨_, rfl, _, _, rfl, rfl, (show (2147483629 : Int) ≠ 0 by decide), _, rfl, a, _, 1, 1, rfl, rfl, h1, rfl, ?_⟩
      have h := fm (i := y * 44497 + (z + 1) * (z + 1) * 7001 + 13) (j := 2147483629) (by decide)
      have h2 := upd_same (H := upd H a (.lst ([V.int x, V.int y, V.int z].set 2 (V.int (z + 1))))) (a := a) (o := .lst ([V.int x, V.int y, V.int (z + 1)].set 1 (V.int ((y * 44497 + (z + 1) * (z + 1) * 7001 + 13).fmod 2147483629))))
      refine ⟨_, rfl, a, _, 1, _, rfl, rfl, SqL.of h2, atI_nat (j := 1) rfl, _, rfl, a, _, 1, _, rfl, rfl, SqL.of h2, atI_nat (j := 1) rfl, _, _, rfl, rfl, .inl ⟨by omega, by omega⟩, .inl ⟨_, rfl, _, _, rfl, rfl, (show (2147483587 : Int) ≠ 0 by decide), _, _, rfl, rfl, ⟨by decide, by decide⟩, _, rfl, _, _, rfl, rfl, (by omega), ?_⟩⟩
      have h3 := fm (i := ((((y * 44497 + (z + 1) * (z + 1) * 7001 + 13).fmod 2147483629) * ((y * 44497 + (z + 1) * (z + 1) * 7001 + 13).fmod 2147483629)).fmod 2147483587).fdiv 64) (j := m) m0
      refine q _ _ (KeepW.upd.trans KeepW.upd) ⟨x, _, z + 1, upd_same, h.1, by omega, by omega, by omega⟩ h3.1 h3.2
def spWord : Sp := fun vs H Q _ => ∃ a b m, vs = [.ref a, .int m] ∧ WellAt H a b ∧ b ≤ 900000 ∧ 0 ≤ m ∧ m ≤ 8 ∧ ∀ (H' : Hp) (x : Str), KeepW a H H' → WellAt H' a (b + 10) → (sl x : Int) ≤ m → Q (.str x) H'
theorem scWord : FnScope ["_law_well_here", "_law_most", "_law_signs", "_law_k"] ["_law_well_here", "_law_most"] (defScope sWord) := ⟨rfl, rfl, rfl, by decide +kernel, rfl, by decide +kernel, by decide +kernel⟩
theorem ok_word {f fD : Addr} {fd fdD : FuncData} (F : FnP K "_law_word" sWord f fd) (FD : FnP K "_law_dip" sDip fD fdD) (bD : Binds K fdD ["_law_well_here", "_law_many"] []) (gD : mg "_law_dip" = some (.ref fD)) (mi : mg "int" = none) (mr : mg "range" = none) :
    FnOk P w K mg base CX0 2 f fd ["_law_well_here", "_law_most"] spWord := by
  have GD : FnOk P w K mg base CX0 1 fD fdD ["_law_well_here", "_law_many"] spDip := ok_dip FD mi
  refine okN F scWord (fun vs H Q E h => ?_) (fun cdv A outer s H vs Q E hr h => ?_)
  · obtain ⟨a, b, m, rfl, _⟩ := h
    rfl
  · obtain ⟨a, b, m, rfl, hw, hb, m0, m1, q⟩ := h
    refine ⟨_, pss_cons (ps_set (i := 2) scWord.nd rfl (.inr rfl) pe_str)
      (pss_one (ps_ret (pe_join pe_str (pe_lc (own := [("_law_k", 3)]) (g := gName 3) (tt := tYes) (te := tOp rIxS (tVar 2) (tCall spDip [] E0 (tCons (tVar 0) (tCons (tC (.int 94)) tNil)))) rfl scWord.nd
        (pi_range1 (by rfl) mr (pa_cons (pe_call GD hr (by rfl) gD FD.kp bD .nil pass0 (pa_cons (pv 0) (pa_cons (pe_op op_add (pv 1) pe_int) pa_nil))) pa_nil)) (blkOk_by (N := ["_law_well_here", "_law_most", "_law_signs", "_law_k"]) (sc := defScope sWord) (by decide +kernel))
        (fun _ _ _ _ _ => pg_name (i := 3) scWord.nd rfl (.inl rfl)) (fun _ _ _ _ _ => pts_nil)
        (fun _ _ _ _ _ => pe_ix ix_str (pv 2) (pe_call GD hr (by rfl) gD FD.kp bD .nil pass0 (pa_cons (pv 0) (pa_cons pe_int pa_nil))) (fun _ _ => rfl)))))), ?_⟩
    refine ⟨⟨_, rfl⟩, _, rfl, _, rfl, _, _, rfl, rfl, a, b, _, rfl, hw, by omega, by omega, by omega, fun H1 r k1 hw1 r0 r1 => ⟨r, rfl, by omega, by omega, fun D nD => ?_⟩⟩
    have sD := same_upd (o := .lst []) nD
    refine walk_range (lo := 0) (n := r.toNat) (fun i H' => KeepW a H1 H' ∧ WellAt H' a (b + 1 + i) ∧ ∃ ys : List Str, H' D = some (.lst (ys.map V.str)) ∧ ys.length = i ∧ ∀ y, y ∈ ys → y.length ≤ 1 ∧ okC y = true)
      ⟨KeepW.of_same sD, hw1.same sD, [], upd_same, rfl, fun y hy => by cases hy⟩ (fun i H' hi p => ?_) (fun H' p => ?_)
    · obtain ⟨k2, hw2, ys, hD, hl, hy⟩ := p
      refine ⟨rfl, _, rfl, _, rfl, a, _, _, rfl, hw2, by omega, by decide, by decide, fun H2 c k3 hw3 c0 c1 => ?_⟩
      have hc : c.toNat < signs.cps.toList.length := by
        rw [signs_len]
        omega
      have ec : (c.toNat : Int) = c := by omega
      refine ⟨signs, c, signs.cps.toList[c.toNat], rfl, rfl, signs_short, ?_, ?_⟩
      · have e := atI_nat (List.getElem?_eq_getElem hc)
        rw [ec] at e
        exact e
      · have naD : D ≠ a := (hw1.ne nD).symm
        refine ⟨_, k3 _ _ hD naD, ?_, fun b o e n => ?_, ?_, ys ++ [⟨#[signs.cps.toList[c.toNat]]⟩], ?_, ?_, fun y hy2 => ?_⟩
        · rw [List.length_map]
          exact small1000 (by omega)
        · rw [upd_ne (ne_of_none e nD)]
          exact k3 _ _ (k2 _ _ e n) n
        · obtain ⟨x', y', z', e, h1⟩ := hw3
          exact ⟨x', y', z', by rw [upd_ne naD.symm]; exact e, h1.1, h1.2.1, h1.2.2.1, by have := h1.2.2.2; omega⟩
        · rw [upd_same, List.map_append]
          rfl
        · rw [List.length_append, List.length_singleton, hl]
        · rcases List.mem_append.mp hy2 with q1 | q1
          · exact hy y q1
          · rw [List.mem_singleton.mp q1]
            refine ⟨Nat.le_refl _, ?_⟩
            have hs := signs_ok signs.cps.toList[c.toNat] (List.getElem_mem hc)
            show ([signs.cps.toList[c.toNat]].all fun c => decide (c < 16 ^ 8)) = true
            simp only [List.all_cons, List.all_nil, Bool.and_true]
            exact decide_eq_true hs
    · obtain ⟨k2, hw2, ys, hD, hl, hyo⟩ := p
      have hy : ∀ y, y ∈ ys → y.length ≤ 1 := fun y h => (hyo y h).1
      have hjo := sl_of (glued_ok ys fun y h => (hyo y h).2)
      have hjl := glued_len ys hy
      have hsum : (ys.map (·.length)).sum ≤ ys.length := by
        clear hD hl hjl hjo hyo
        induction ys with
        | nil => exact Nat.le_refl _
        | cons y r ih =>
          have h1 := hy y List.mem_cons_self
          have h2 := ih fun u hu => hy u (List.mem_cons_of_mem _ hu)
          simp only [List.map_cons, List.sum_cons, List.length_cons]
          omega
      have e0 : (Str.ofString "").length = 0 := by decide
      refine ⟨_, D, ys, rfl, rfl, .inl (SqL.of hD), ?_, ?_⟩
      · rw [e0]
        omega
      · rw [TL.join_eq]
        exact q H' _ (k1.trans k2) (hw2.more (by omega)) (by omega)
end
end K46

set_option Elab.async false
set_option linter.all false
set_option maxRecDepth 100000
set_option maxHeartbeats 4000000
/-! K46P: _law_pool, _law_numbers. -/
namespace K46
open PySem PySem.Spec PyProof.Rows L2
theorem KeepW.upd0 {H H' : Hp} {a p : Addr} {o : HO} (k : KeepW a H H') (n : H p = none) : KeepW a H (L2.upd H' p o) := fun c u e ne => by
  rw [upd_ne (ne_of_none e n)]
  exact k c u e ne
theorem WellAt.upd {H : Hp} {a p : Addr} {b : Nat} {o : HO} (h : WellAt H a b) (n : p ≠ a) : WellAt (L2.upd H p o) a b := by
  obtain ⟨x, y, z, e, h1⟩ := h
  exact ⟨x, y, z, by rw [upd_ne n.symm]; exact e, h1⟩
theorem short_ok {n : Nat} (h : n ≤ 1000) : n ≤ sizeLine := Nat.le_of_lt (small1000 h)
section
variable {P : Program} {w : World} {K : PySem.W.Frag} {mg : Str → Option Value} {base : Heap}
def spPool : Sp := fun vs H Q _ => ∃ a b m, vs = [.ref a, .int m] ∧ WellAt H a b ∧ b ≤ 800000 ∧ 1 ≤ m ∧ m ≤ 8 ∧
  ∀ (H' : Hp) (p : Addr) (ks : List Str), KeepW a H H' → WellAt H' a (b + 400) → H p = none → H' p = some (.lst (ks.map V.str)) → ks ≠ [] → ks.length ≤ 8 → (∀ k, k ∈ ks → sl k ≤ 20) → Q (.ref p) H'
theorem scPool : FnScope ["_law_well_here", "_law_many", "_law_pool_here", "_law_k", "_law_key"] ["_law_well_here", "_law_many"] (defScope sPool) := ⟨rfl, rfl, rfl, by decide +kernel, rfl, by decide +kernel, by decide +kernel⟩
theorem ok_pool {f fD fW : Addr} {fd fdD fdW : FuncData} (F : FnP K "_law_pool" sPool f fd) (GD : FnOk P w K mg base CX0 1 fD fdD ["_law_well_here", "_law_many"] spDip) (kD : PySem.W.keepIn K (.ref fD) = true) (bD : Binds K fdD ["_law_well_here", "_law_many"] []) (gD : mg "_law_dip" = some (.ref fD))
    (GW : FnOk P w K mg base CX0 2 fW fdW ["_law_well_here", "_law_most"] spWord) (kW : PySem.W.keepIn K (.ref fW) = true) (bW : Binds K fdW ["_law_well_here", "_law_most"] []) (gW : mg "_law_word" = some (.ref fW)) (mr : mg "range" = none) :
    FnOk P w K mg base CX0 3 f fd ["_law_well_here", "_law_many"] spPool := by
  refine okN F scPool (fun vs H Q E h => ?_) (fun cdv A outer s H vs Q E hr h => ?_)
  · obtain ⟨a, b, m, rfl, _⟩ := h
    rfl
  · obtain ⟨a, b, m, rfl, hw, hb, m0, m1, q⟩ := h
    have hr1 : Room 1 _ := hr.mono (by decide)
    refine ⟨_, pss_cons (ps_set (i := 2) scPool.nd rfl (.inl rfl) (pe_lst (pa_cons (pe_call GW hr (by rfl) gW kW bW .nil pass0 (pa_cons (pv 0) (pa_cons pe_int pa_nil))) pa_nil)))
      (pss_cons (ps_for PassesOwn.never rfl (pi_range1 (by rfl) mr (pa_cons (pe_op op_sub (pv 1) pe_int) pa_nil)) (pg_name (i := 3) scPool.nd rfl (.inl rfl))
        (pss_cons (ps_set (i := 4) scPool.nd rfl (.inl rfl) (pe_ix ix_list (pe_lst (pa_cons (pe_call GW hr (by rfl) gW kW bW .nil pass0 (pa_cons (pv 0) (pa_cons pe_int pa_nil)))
            (pa_cons (pe_op op_add_str (pe_ix ix_list (pv 2) (pe_un un_neg pe_int) (fun _ _ => rfl)) (pe_call GW hr (by rfl) gW kW bW .nil pass0 (pa_cons (pv 0) (pa_cons pe_int pa_nil))))
            (pa_cons (pe_op op_add_str (pe_call GW hr (by rfl) gW kW bW .nil pass0 (pa_cons (pv 0) (pa_cons pe_int pa_nil))) (pe_ix ix_list (pv 2) pe_int (fun _ _ => rfl))) pa_nil))))
            (pe_call GD hr1 (by rfl) gD kD bD .nil pass0 (pa_cons (pv 0) (pa_cons pe_int pa_nil))) (fun _ _ => rfl)))
        (pss_one (ps_if (pt_cmpR op_notIn_seq (pv 4) (pv 2) (by rfl)) (pss_one (ps_expr (pe_bm PySem.F.plainAttrs_list PySem.F.slot_list_append PySem.F.type_list_append mt_append (pv 2) (pa_cons (pv 4) pa_nil)))) pss_nil))))
      (pss_one (ps_ret (pv 2)))), ?_⟩
    refine ⟨_, rfl, a, b, 2, rfl, hw, by omega, by decide, by decide, fun H1 x k1 hw1 hx => ⟨(by show 1 ≤ sizeLine; decide), fun p np => ?_⟩⟩
    have s1 := same_upd (o := .lst [V.str x]) np
    have npa : p ≠ a := (hw1.ne np).symm
    have npH : H p = none := k1.free hw hw1 np
    refine ⟨_, rfl, m, 1, rfl, rfl, m - 1, rfl, by omega, by omega, ?_⟩
    refine for_range (lo := 0) (n := (m - 1).toNat) (fun i σ H2 => ∃ ks o3 o4, σ = [some (.ref a), some (.int m), some (.ref p), o3, o4] ∧ KeepW a H H2 ∧ WellAt H2 a (b + 10 + 31 * i) ∧ H2 p = some (.lst (ks.map V.str)) ∧ ks ≠ [] ∧ ks.length ≤ i + 1 ∧ ∀ k, k ∈ ks → sl k ≤ 3 + i)
      ⟨[x], none, none, rfl, k1.trans (KeepW.of_same s1), hw1.same s1, upd_same, by simp, Nat.le_refl _, fun k hk => by rw [List.mem_singleton.mp hk]; omega⟩ (fun i σ H2 hi pr => ?_) (fun σ H2 pr => ?_)
    · obtain ⟨ks, o3, o4, rfl, k2, hw2, hp, kn, kl, kb⟩ := pr
      have hi8 : i < 8 := by omega
      obtain ⟨r, u, eru⟩ : ∃ r u, ks = r ++ [u] := ⟨_, _, (List.dropLast_concat_getLast kn).symm⟩
      obtain ⟨h0, t0, eht⟩ : ∃ h t, ks = h :: t := by
        cases ks with
        | nil => exact absurd rfl kn
        | cons h t => exact ⟨h, t, rfl⟩
      have hu := kb u (by rw [eru]; simp)
      have hh := kb h0 (by rw [eht]; simp)
      have hu' := sl_len u
      have hh' := sl_len h0
      -- the three
      refine ⟨_, rfl, a, _, 3, rfl, hw2, by omega, by decide, by decide, fun H3 x1 k3 hw3 hx1 => ?_⟩
      have hp3 := k3 _ _ hp npa
      refine ⟨_, rfl, 1, rfl, p, _, -1, .str u, rfl, rfl, SqL.of hp3, (by rw [eru, List.map_append]; exact atI_last _ _), _, rfl, a, _, 1, rfl, hw3, by omega, by decide, by decide, fun H4 x2 k4 hw4 hx2 => ?_⟩
      have hp4 := k4 _ _ hp3 npa
      have hx2' := sl_len x2
      refine ⟨u, x2, rfl, rfl, short_ok (by omega), _, rfl, a, _, 1, rfl, hw4, by omega, by decide, by decide, fun H5 x3 k5 hw5 hx3 => ?_⟩
      have hp5 := k5 _ _ hp4 npa
      refine ⟨_, rfl, p, _, 0, .str h0, rfl, rfl, SqL.of hp5, (by rw [eht]; exact atI_nat (j := 0) rfl), x3, h0, rfl, rfl, short_ok (by have := sl_len x3; omega), (by show 3 ≤ sizeLine; decide), fun T nT => ?_⟩
      have sT := same_upd (o := .lst [V.str x1, V.str (u ++ x2), V.str (x3 ++ h0)]) nT
      have nTa : T ≠ a := (hw5.ne nT).symm
      refine ⟨_, rfl, a, _, 3, rfl, hw5.same sT, by omega, by decide, by decide, fun H6 c k6 hw6 c0 c1 => ?_⟩
      have hT6 := k6 _ _ upd_same nTa
      have hp6 := k6 _ _ (sT _ _ hp5) npa
      obtain ⟨key, hkey, hkl⟩ : ∃ key : Str, [V.str x1, V.str (u ++ x2), V.str (x3 ++ h0)][c.toNat]? = some (.str key) ∧ sl key ≤ 3 + (i + 1) := by
        have e1 := sl_app u x2
        have e2 := sl_app x3 h0
        by_cases q0 : c = 0
        · exact ⟨x1, by rw [q0]; rfl, by omega⟩
        · by_cases q1 : c = 1
          · exact ⟨u ++ x2, by rw [q1]; rfl, by omega⟩
          · have q2 : c = 2 := by omega
            exact ⟨x3 ++ h0, by rw [q2]; rfl, by omega⟩
      have ec : (c.toNat : Int) = c := by omega
      have kk : KeepW a H H6 := k2.trans (k3.trans (k4.trans (k5.trans ((KeepW.of_same sT).trans k6))))
      refine ⟨T, _, c, .str key, rfl, rfl, SqL.of hT6, (by have e := atI_nat hkey; rw [ec] at e; exact e), ?_⟩
      refine ⟨_, rfl, _, rfl, p, _, rfl, .inl (SqL.of hp6), rfl, flat_strs _, _, rfl, ?_⟩
      refine ite2 (fun _ => ?_) (fun _ => ?_)
      · refine ⟨_, rfl, .inl ⟨rfl, _, SqL.of hp6⟩, _, rfl, p, _, _, rfl, rfl, hp6, ?_, ?_⟩
        · rw [List.length_map]
          exact small1000 (by omega)
        · refine ⟨ks ++ [key], _, _, rfl, kk.upd0 npH, (hw6.upd npa).more (by omega), ?_, by simp, ?_, fun k hk => ?_⟩
          · rw [upd_same, List.map_append]
            rfl
          · rw [List.length_append, List.length_singleton]
            omega
          · rcases List.mem_append.mp hk with z | z
            · have := kb k z
              omega
            · rw [List.mem_singleton.mp z]
              exact hkl
      · exact ⟨ks, _, _, rfl, kk, hw6.more (by omega), hp6, kn, by omega, fun k hk => by have := kb k hk; omega⟩
    · obtain ⟨ks, o3, o4, rfl, k2, hw2, hp, kn, kl, kb⟩ := pr
      exact ⟨_, rfl, q H2 p ks k2 (hw2.more (by omega)) npH hp kn (by omega) fun k hk => by have := kb k hk; omega⟩
def spNumbers : Sp := fun vs H Q _ => ∃ a b m, vs = [.ref a, .int m] ∧ WellAt H a b ∧ b ≤ 800000 ∧ 0 ≤ m ∧ m ≤ 8 ∧
  ∀ (H' : Hp) (p : Addr) (xs : List Int), KeepW a H H' → WellAt H' a (b + 20) → H p = none → H' p = some (.lst (xs.map V.int)) → (xs.length : Int) = m → xs.Pairwise (· < ·) → (∀ x, x ∈ xs → 1 ≤ x ∧ x ≤ 1000) → Q (.ref p) H'
theorem scNum : FnScope ["_law_well_here", "_law_many", "_law_numbers_here", "_law_last", "_law_k"] ["_law_well_here", "_law_many"] (defScope sNumbers) := ⟨rfl, rfl, rfl, by decide +kernel, rfl, by decide +kernel, by decide +kernel⟩
theorem ok_numbers {f fD : Addr} {fd fdD : FuncData} (F : FnP K "_law_numbers" sNumbers f fd) (GD : FnOk P w K mg base CX0 1 fD fdD ["_law_well_here", "_law_many"] spDip) (kD : PySem.W.keepIn K (.ref fD) = true) (bD : Binds K fdD ["_law_well_here", "_law_many"] []) (gD : mg "_law_dip" = some (.ref fD)) (mr : mg "range" = none) :
    FnOk P w K mg base CX0 2 f fd ["_law_well_here", "_law_many"] spNumbers := by
  refine okN F scNum (fun vs H Q E h => ?_) (fun cdv A outer s H vs Q E hr h => ?_)
  · obtain ⟨a, b, m, rfl, _⟩ := h
    rfl
  · obtain ⟨a, b, m, rfl, hw, hb, m0, m1, q⟩ := h
    refine ⟨_, pss_cons (ps_par (i := 2) (j := 3) rfl scNum.nd rfl rfl (by decide) rfl rfl (pa_cons (pe_lst pa_nil) (pa_cons (pe_ix ix_list (pe_lst (pa_cons pe_int (pa_cons (pe_call GD hr (by rfl) gD kD bD .nil pass0 (pa_cons (pv 0) (pa_cons pe_int pa_nil))) pa_nil)))
          (pe_call GD hr (by rfl) gD kD bD .nil pass0 (pa_cons (pv 0) (pa_cons pe_int pa_nil))) (fun _ _ => rfl)) pa_nil)) (by rfl))
      (pss_cons (ps_for PassesOwn.never rfl (pi_range1 (by rfl) mr (pa_cons (pv 1) pa_nil)) (pg_name (i := 4) scNum.nd rfl (.inl rfl))
        (pss_cons (ps_set (i := 3) scNum.nd rfl (.inl rfl) (pe_op op_add (pe_op op_add (pv 3) pe_int) (pe_ix ix_list (pe_lst (pa_cons pe_int (pa_cons pe_int (pa_cons (pe_call GD hr (by rfl) gD kD bD .nil pass0 (pa_cons (pv 0) (pa_cons pe_int pa_nil))) pa_nil))))
            (pe_call GD hr (by rfl) gD kD bD .nil pass0 (pa_cons (pv 0) (pa_cons pe_int pa_nil))) (fun _ _ => rfl))))
        (pss_one (ps_expr (pe_bm PySem.F.plainAttrs_list PySem.F.slot_list_append PySem.F.type_list_append mt_append (pv 2) (pa_cons (pv 3) pa_nil))))))
      (pss_one (ps_ret (pv 2)))), ?_⟩
    refine ⟨Nat.zero_le _, fun p np => ?_⟩
    have s1 := same_upd (o := .lst []) np
    have npa : p ≠ a := (hw.ne np).symm
    have hw1 := hw.same s1
    refine ⟨_, rfl, a, _, 30, rfl, hw1, by omega, by decide, by decide, fun H1 c1 k1 hw2 c10 c11 => ⟨(by show 2 ≤ sizeLine; decide), fun T nT => ?_⟩⟩
    have sT := same_upd (o := .lst [V.int 0, V.int c1]) nT
    have nTa : T ≠ a := (hw2.ne nT).symm
    refine ⟨_, rfl, a, _, 2, rfl, hw2.same sT, by omega, by decide, by decide, fun H2 c2 k2 hw3 c20 c21 => ?_⟩
    have hT := k2 _ _ upd_same nTa
    have hp2 := k2 _ _ (sT _ _ (k1 _ _ upd_same npa)) npa
    have kk : KeepW a H H2 := (KeepW.of_same s1).trans (k1.trans ((KeepW.of_same sT).trans k2))
    obtain ⟨l0, hl0, l00, l01⟩ : ∃ l0 : Int, [V.int 0, V.int c1][c2.toNat]? = some (.int l0) ∧ 0 ≤ l0 ∧ l0 < 30 := by
      by_cases q0 : c2 = 0
      · exact ⟨0, by rw [q0]; rfl, by omega, by omega⟩
      · have q1 : c2 = 1 := by omega
        exact ⟨c1, by rw [q1]; rfl, by omega, by omega⟩
    have ec : (c2.toNat : Int) = c2 := by omega
    refine ⟨T, _, c2, .int l0, rfl, rfl, SqL.of hT, (by have e := atI_nat hl0; rw [ec] at e; exact e), _, _, rfl, ?_⟩
    refine ⟨_, rfl, m, rfl, by omega, by omega, ?_⟩
    refine for_range (lo := 0) (n := m.toNat) (fun i σ H3 => ∃ (xs : List Int) (l : Int) (o4 : Option V), σ = [some (.ref a), some (.int m), some (.ref p), some (.int l), o4] ∧ KeepW a H H3 ∧ WellAt H3 a (b + 2 + 2 * i) ∧ H3 p = some (.lst (xs.map V.int)) ∧ xs.length = i ∧ xs.Pairwise (· < ·) ∧ 0 ≤ l ∧ l ≤ 30 + 5 * i ∧ ∀ x, x ∈ xs → 1 ≤ x ∧ x ≤ l)
      ⟨[], l0, none, rfl, kk, hw3.more (by omega), hp2, rfl, List.Pairwise.nil, l00, by omega, fun x hx => by cases hx⟩ (fun i σ H3 hi pr => ?_) (fun σ H3 pr => ?_)
    · obtain ⟨xs, l, o4, rfl, k3, hw4, hp3, xl, xp, ll0, ll1, xb⟩ := pr
      have hi8 : i < 8 := by omega
      refine ⟨_, rfl, l, 1, rfl, rfl, _, rfl, a, _, 4, rfl, hw4, by omega, by decide, by decide, fun H4 d1 k4 hw5 d10 d11 => ⟨(by show 3 ≤ sizeLine; decide), fun T2 nT2 => ?_⟩⟩
      have sT2 := same_upd (o := .lst [V.int 0, V.int 0, V.int d1]) nT2
      have nT2a : T2 ≠ a := (hw5.ne nT2).symm
      refine ⟨_, rfl, a, _, 3, rfl, hw5.same sT2, by omega, by decide, by decide, fun H5 d2 k5 hw6 d20 d21 => ?_⟩
      have hT2 := k5 _ _ upd_same nT2a
      have hp5 := k5 _ _ (sT2 _ _ (k4 _ _ hp3 npa)) npa
      have kk5 : KeepW a H H5 := k3.trans (k4.trans ((KeepW.of_same sT2).trans k5))
      obtain ⟨e0, he0, e00, e01⟩ : ∃ e0 : Int, [V.int 0, V.int 0, V.int d1][d2.toNat]? = some (.int e0) ∧ 0 ≤ e0 ∧ e0 < 4 := by
        by_cases q0 : d2 = 0
        · exact ⟨0, by rw [q0]; rfl, by omega, by omega⟩
        · by_cases q1 : d2 = 1
          · exact ⟨0, by rw [q1]; rfl, by omega, by omega⟩
          · have q2 : d2 = 2 := by omega
            exact ⟨d1, by rw [q2]; rfl, by omega, by omega⟩
      have ed : (d2.toNat : Int) = d2 := by omega
      refine ⟨T2, _, d2, .int e0, rfl, rfl, SqL.of hT2, (by have e := atI_nat he0; rw [ed] at e; exact e), l + 1, e0, rfl, rfl, ?_⟩
      refine ⟨_, rfl, .inl ⟨rfl, _, SqL.of hp5⟩, _, rfl, p, _, _, rfl, rfl, hp5, ?_, ?_⟩
      · rw [List.length_map]
        exact small1000 (by omega)
      · refine ⟨xs ++ [l + 1 + e0], l + 1 + e0, _, rfl, kk5.upd0 np, (hw6.upd npa).more (by omega), ?_, ?_, ?_, by omega, by omega, fun x hx => ?_⟩
        · rw [upd_same, List.map_append]
          rfl
        · rw [List.length_append, List.length_singleton, xl]
        · rw [List.pairwise_append]
          refine ⟨xp, List.pairwise_singleton _ _, fun x hx y hy => ?_⟩
          rw [List.mem_singleton.mp hy]
          have := xb x hx
          omega
        · rcases List.mem_append.mp hx with z | z
          · have := xb x z
            omega
          · rw [List.mem_singleton.mp z]
            omega
    · obtain ⟨xs, l, o4, rfl, k3, hw4, hp3, xl, xp, ll0, ll1, xb⟩ := pr
      exact ⟨_, rfl, q H3 p xs k3 (hw4.more (by omega)) np hp3 (by omega) xp fun x hx => by have := xb x hx; omega⟩
end
end K46

set_option Elab.async false
set_option linter.all false
set_option maxRecDepth 100000
set_option maxHeartbeats 4000000
/-! K46Q: _law_given, _law_note. -/
namespace K46
open PySem PySem.Spec PyProof.Rows L2
def shortO : Option Str → Prop
  | none => True
  | some x => sl x ≤ 30
def rowD (k : Str) : PyData := .tuple [.str k, .str "v"]
/-- a note as the law's notes are -/
def NtOk : Nt → Prop
  | .val k v => sl k ≤ 30 ∧ (v = .none ∨ v = .str "v")
  | .ent lo hi r => shortO lo ∧ shortO hi ∧ ∃ rs : List Str, r = .tuple (rs.map rowD) ∧ rs.length ≤ 1 ∧ ∀ k, k ∈ rs → sl k ≤ 30
def NtIn : Nt → Prop
  | .val k v => sl k ≤ 30 ∧ v = .none
  | .ent lo hi r => shortO lo ∧ shortO hi ∧ r = .tuple []
def rowsK (rs : List Str) : List (Key × V) := rs.map fun k => (Sum.inr k, V.str "v")
theorem rowsK_keys (rs : List Str) : (rowsK rs).map (·.1) = rs.map Sum.inr := by
  unfold rowsK
  rw [List.map_map]
  rfl
theorem rowsK_val : ∀ {rs : List Str} {k : Str}, k ∈ rs → valV (rowsK rs) (Sum.inr k : Key) = some (.str "v")
  | r :: rs, k, h => by
    by_cases e : r = k
    · exact valV_pos (show (Sum.inr r : Key) = Sum.inr k by rw [e])
    · have h2 : k ∈ rs := by
        rcases List.mem_cons.mp h with q | q
        · exact absurd q.symm e
        · exact q
      have e2 : valV (rowsK (r :: rs)) (Sum.inr k : Key) = valV (rowsK rs) (Sum.inr k : Key) := valV_neg (show ¬ (Sum.inr r : Key) = Sum.inr k from fun z => e (Sum.inr.inj z))
      rw [e2]
      exact rowsK_val h2
theorem rowsK_get (rs : List Str) (k : Str) : valV (rowsK rs) (Sum.inr k : Key) = none ∨ valV (rowsK rs) (Sum.inr k : Key) = some (.str "v") := by
  by_cases h : k ∈ rs
  · exact .inr (rowsK_val h)
  · left
    induction rs with
    | nil => rfl
    | cons r rs ih =>
      have e : ¬ r = k := fun z => h (by rw [z]; exact List.mem_cons_self)
      have e2 : valV (rowsK (r :: rs)) (Sum.inr k : Key) = valV (rowsK rs) (Sum.inr k : Key) := valV_neg (show ¬ (Sum.inr r : Key) = Sum.inr k from fun z => e (Sum.inr.inj z))
      rw [e2]
      exact ih fun z => h (List.mem_cons_of_mem _ z)
theorem optV_dt {H : Hp} (o : Option Str) : DT H (optV o) (optD o) := by
  cases o with
  | none => exact .non
  | some x => exact .str x
section
variable {P : Program} {w : World} {K : PySem.W.Frag} {mg : Str → Option Value} {base : Heap}
def spGiven : Sp := fun vs H Q _ => ∃ d v rs t, vs = [.ref d, v] ∧ Rd H d (.dK (rowsK rs)) ∧ rs.length ≤ 1 ∧ (∀ k, k ∈ rs → sl k ≤ 30) ∧ DT H v (Nt.d t) ∧ NtIn t ∧
  ∀ (H' : Hp) (v' : V) (t' : Nt), Same H H' → DT H' v' (Nt.d t') → NtOk t' → Q v' H'
theorem scGiv : FnScope ["_law_rows", "_law_note_here", "_law_found", "_law_key"] ["_law_rows", "_law_note_here"] (defScope sGiven) := ⟨rfl, rfl, rfl, by decide +kernel, rfl, by decide +kernel, by decide +kernel⟩
theorem ok_given {f fH : Addr} {fd fdH : FuncData} (F : FnP K "_law_given" sGiven f fd) (GH : FnOk P w K mg base CX0 1 fH fdH ["_law_note_here", "_law_key"] spNK) (kH : PySem.W.keepIn K (.ref fH) = true) (bH : Binds K fdH ["_law_note_here", "_law_key"] []) (gH : mg "_law_has" = some (.ref fH)) (mt : mg "tuple" = none) (mS : mg "sorted" = none) :
    FnOk P w K mg base CX0 2 f fd ["_law_rows", "_law_note_here"] spGiven := by
  refine okN F scGiv (fun vs H Q E h => ?_) (fun cdv A outer s H vs Q E hr h => ?_)
  · obtain ⟨d, v, rs, t, rfl, _⟩ := h
    rfl
  · obtain ⟨d, v, rs, t, rfl, hd, hrs, hrk, hv, ht, q⟩ := h
    have hu := hu_of hr
    refine ⟨_, pss_cons (ps_if (pt_cmpR op_eq (pe_ix ix_tup (pv 1) pe_int (fun _ _ => rfl)) pe_str (nomark _))
        (pss_one (ps_ret (pe_tup (pa_cons pe_str (pa_cons (pe_ix ix_tup (pv 1) pe_int (fun _ _ => rfl)) (pa_cons (pe_dget1 hu (pv 0) (pe_ix ix_tup (pv 1) pe_int (fun _ _ => rfl)) ⟨by rfl, by rfl, by rfl, by rfl⟩) pa_nil)))))) pss_nil)
      (pss_cons (ps_set (i := 2) scGiv.nd rfl (.inl rfl) (pe_callTy call_tuple_of (by rfl) mt (by decide +kernel) (pa_cons (pe_lc (own := [("_law_key", 3)]) (g := gName 3) (tt := tB (tCall spNK [] E0 (tCons (tVar 1) (tCons (tVar 3) tNil)))) (te := tTup (tCons (tVar 3) (tCons (tDGet (tVar 0) (tVar 3)) tNil))) rfl scGiv.nd
        (pi_list (pe_callB (call_sortedD rfl) (by rfl) mS (by decide +kernel) (pa_cons (pv 0) pa_nil))) (blkOk_by (N := ["_law_rows", "_law_note_here", "_law_found", "_law_key"]) (sc := defScope sGiven) (by decide +kernel))
        (fun _ _ _ _ _ => pg_name (i := 3) scGiv.nd rfl (.inl rfl)) (fun _ _ _ _ _ => pts_one (pt_val (pe_call GH hr (by rfl) gH kH bH .nil pass0 (pa_cons (pv 1) (pa_cons (pv 3) pa_nil)))))
        (fun _ _ _ _ _ => pe_tup (pa_cons (pv 3) (pa_cons (pe_dget hu (pv 0) (pv 3) (fun _ _ => rfl)) pa_nil)))) pa_nil)))
      (pss_one (ps_ret (pe_tup (pa_cons pe_str (pa_cons (pe_ix ix_tup (pv 1) pe_int (fun _ _ => rfl)) (pa_cons (pe_ix ix_tup (pv 1) pe_int (fun _ _ => rfl)) (pa_cons (pv 2) pa_nil)))))))), ?_⟩
    cases t with
    | val k pd =>
      obtain ⟨a, y, rfl, ha, _⟩ := Nt.val_parts hv
      refine ⟨_, rfl, a, _, 0, _, rfl, rfl, SqT.of ha, atI_nat (j := 0) rfl, rfl, _, rfl, ?_⟩
      rw [decide_eq_true rfl]
      refine iteT ⟨_, rfl, a, _, 1, _, rfl, rfl, SqT.of ha, atI_nat (j := 1) rfl, _, rfl, d, rfl, .inl ⟨_, hd⟩, _, rfl, a, _, 1, _, rfl, rfl, SqT.of ha, atI_nat (j := 1) rfl, valV (rowsK rs) (Sum.inr k : Key), .inl ⟨rowsK rs, Sum.inr k, hd, rfl, rfl⟩, (by show 3 ≤ sizeLine; decide), fun p np => ?_⟩
      have sp := same_upd (o := .tup [V.str "value", V.str k, (valV (rowsK rs) (Sum.inr k : Key)).getD .non]) np
      rcases rowsK_get rs k with e | e
      · exact q _ _ (.val k .none) sp (.tup upd_same (.cons (.str _) (.cons (.str _) (.cons (by rw [e]; exact .non) .nil)))) ⟨ht.1, .inl rfl⟩
      · exact q _ _ (.val k (.str "v")) sp (.tup upd_same (.cons (.str _) (.cons (.str _) (.cons (by rw [e]; exact .str _) .nil)))) ⟨ht.1, .inr rfl⟩
    | ent lo hi pd =>
      obtain ⟨a, y, rfl, ha, _⟩ := Nt.ent_parts hv
      obtain ⟨h1, h2, rfl⟩ := ht
      refine ⟨_, rfl, a, _, 0, _, rfl, rfl, SqT.of ha, atI_nat (j := 0) rfl, rfl, _, rfl, ?_⟩
      rw [decide_eq_false ev_ne]
      refine iteF ?_
      refine ⟨_, rfl, d, rowsK rs, rs, rfl, hd, rowsK_keys rs, by omega, fun ys p hp hs np => ?_⟩
      have s1 := same_upd (o := .lst (ys.map V.str)) np
      have yl : ys.length ≤ 1 := by
        rw [hp.length_eq]
        exact hrs
      refine ⟨p, rfl, ⟨_, SqL.of upd_same⟩, fun D nD => ?_⟩
      have sD := same_upd (o := .lst []) nD
      have npD : p ≠ D := fun e => by
        rw [← e, upd_same] at nD
        cases nD
      refine walk_list (K := K) (a := p) (xs := ys.map V.str) (fun i H' => Same H H' ∧ H' p = some (.lst (ys.map V.str)) ∧ ∃ zs xs, H' D = some (.lst xs) ∧ DTs H' xs (zs.map rowD) ∧ zs.length ≤ i ∧ ∀ k, k ∈ zs → sl k ≤ 30)
        ⟨s1.trans sD, by rw [upd_ne npD, upd_same], [], [], upd_same, .nil, Nat.le_refl _, fun k hk => by cases hk⟩ (fun i H' _ pr => SqL.of pr.2.1) (fun i x H' hx pr => ?_) (fun H' pr => ?_)
      · obtain ⟨sm, hp', zs, xs, hD, hxs, zl, zk⟩ := pr
        obtain ⟨k, hk, rfl⟩ := strs_get hx
        have hkm : k ∈ rs := hp.mem_iff.mp (List.mem_of_getElem? hk)
        refine ⟨rfl, _, rfl, _, rfl, _, .ent lo hi (.tuple []), k, rfl, hv.mono (Same.tups sm), _, rfl, ?_⟩
        refine ite2 (fun _ => ?_) (fun _ => ?_)
        · refine ⟨_, rfl, _, rfl, _, rfl, d, .str "v", rfl, .inl ⟨rowsK rs, Sum.inr k, Same.rd sm hd, rfl, (rowsK_val hkm).symm⟩, (by show 2 ≤ sizeLine; decide), fun t1 nt1 => ?_⟩
          have s3 := same_upd (o := .tup [V.str k, V.str "v"]) nt1
          have nt1D : D ≠ t1 := ne_of_none hD nt1
          refine ⟨xs, s3 _ _ hD, ?_, fun c o e => ?_, ?_, zs ++ [k], xs ++ [.ref t1], upd_same, ?_, ?_, fun z hz => ?_⟩
          · have e := hxs.length
            have hi : i < (ys.map V.str).length := (List.getElem?_eq_some_iff.mp hx).1
            rw [List.length_map] at e hi
            exact small1000 (by omega)
          · have cD : c ≠ D := ne_of_none (s1 _ _ e) nD
            rw [upd_ne cD]
            exact s3 _ _ (sm _ _ e)
          · rw [upd_ne npD]
            exact s3 _ _ hp'
          · have tL := tups_upd_lst (o := .lst (xs ++ [.ref t1])) (s3 _ _ hD)
            rw [List.map_append]
            exact DTs.append ((hxs.mono (Same.tups s3)).mono tL) (.cons (.tup (by rw [upd_ne nt1D.symm, upd_same]) (.cons (.str _) (.cons (.str _) .nil))) .nil)
          · rw [List.length_append, List.length_singleton]
            omega
          · rcases List.mem_append.mp hz with z1 | z1
            · exact zk z z1
            · rw [List.mem_singleton.mp z1]
              exact hrk k hkm
        · exact ⟨sm, hp', zs, xs, hD, hxs, by omega, zk⟩
      · obtain ⟨sm, hp', zs, xs, hD, hxs, zl, zk⟩ := pr
        rw [List.length_map] at zl
        refine ⟨D, xs, rfl, .inl ⟨SqL.of hD, fun T nT => ?_⟩⟩
        have sT := same_upd (o := .tup xs) nT
        have ha2 := sT _ _ (sm _ _ ha)
        refine ⟨_, rfl, a, _, 1, _, rfl, rfl, SqT.of ha2, atI_nat (j := 1) rfl, _, rfl, a, _, 2, _, rfl, rfl, SqT.of ha2, atI_nat (j := 2) rfl, _, rfl, (by show 4 ≤ sizeLine; decide), fun p2 np2 => ?_⟩
        have s4 := same_upd (o := .tup [V.str "entries", optV lo, optV hi, V.ref T]) np2
        refine q _ _ (.ent lo hi (.tuple (zs.map rowD))) (sm.trans (sT.trans s4)) (.tup upd_same (.cons (.str _) (.cons (optV_dt lo) (.cons (optV_dt hi) (.cons (.tup (s4 _ _ upd_same) (hxs.mono (Same.tups (sT.trans s4)))) .nil))))) ⟨h1, h2, zs, rfl, by omega, zk⟩
def spNote : Sp := fun vs H Q _ => ∃ a b pl ks d rs, vs = [.ref a, .ref pl, .ref d] ∧ WellAt H a b ∧ b ≤ 800000 ∧ H pl = some (.lst (ks.map V.str)) ∧ pl ≠ a ∧ ks ≠ [] ∧ ks.length ≤ 8 ∧ (∀ k, k ∈ ks → sl k ≤ 20) ∧ Rd H d (.dK (rowsK rs)) ∧ rs.length ≤ 1 ∧ (∀ k, k ∈ rs → sl k ≤ 30) ∧
  ∀ (H' : Hp) (v' : V) (t' : Nt), KeepW a H H' → WellAt H' a (b + 20) → DT H' v' (Nt.d t') → NtOk t' → Q v' H'
theorem KeepW.rd {H H' : Hp} {a d : Addr} {b : Nat} {kvs : List (Key × V)} (k : KeepW a H H') (h : WellAt H a b) (r : Rd H d (.dK kvs)) : Rd H' d (.dK kvs) := by
  obtain ⟨x, y, z, e2, _⟩ := h
  rcases r with r | ⟨o, r⟩
  · exact .inl (k _ _ r (ne_of r e2 (by intro z; cases z)))
  · exact .inr ⟨o, k _ _ r (ne_of r e2 (by intro z; cases z))⟩
theorem scNote : FnScope ["_law_well_here", "_law_pool_here", "_law_rows", "_law_ends", "_law_low", "_law_high"] ["_law_well_here", "_law_pool_here", "_law_rows"] (defScope sNote) := ⟨rfl, rfl, rfl, by decide +kernel, rfl, by decide +kernel, by decide +kernel⟩
theorem ok_note {f fD fW fG : Addr} {fd fdD fdW fdG : FuncData} (F : FnP K "_law_note" sNote f fd) (GD : FnOk P w K mg base CX0 1 fD fdD ["_law_well_here", "_law_many"] spDip) (kD : PySem.W.keepIn K (.ref fD) = true) (bD : Binds K fdD ["_law_well_here", "_law_many"] []) (gD : mg "_law_dip" = some (.ref fD))
    (GW : FnOk P w K mg base CX0 2 fW fdW ["_law_well_here", "_law_most"] spWord) (kW : PySem.W.keepIn K (.ref fW) = true) (bW : Binds K fdW ["_law_well_here", "_law_most"] []) (gW : mg "_law_word" = some (.ref fW))
    (GG : FnOk P w K mg base CX0 2 fG fdG ["_law_rows", "_law_note_here"] spGiven) (kG : PySem.W.keepIn K (.ref fG) = true) (bG : Binds K fdG ["_law_rows", "_law_note_here"] []) (gG : mg "_law_given" = some (.ref fG)) (ml : mg "len" = none) :
    FnOk P w K mg base CX0 3 f fd ["_law_well_here", "_law_pool_here", "_law_rows"] spNote := by
  refine okN F scNote (fun vs H Q E h => ?_) (fun cdv A outer s H vs Q E hr h => ?_)
  · obtain ⟨a, b, pl, ks, d, rs, rfl, _⟩ := h
    rfl
  · obtain ⟨a, b, pl, ks, d, rs, rfl, hw, hb, hpl, npl, kn, kl, kb, hd, hrs, hrk, q⟩ := h
    have hr1 : Room 1 _ := hr.mono (by decide)
    refine ⟨_, pss_cons (ps_set (i := 3) scNote.nd rfl (.inl rfl) (pe_op op_cat (pe_op op_cat (pe_lst (pa_cons pe_non (pa_cons pe_non pa_nil))) (pv 1)) (pe_lst (pa_cons (pe_call GW hr (by rfl) gW kW bW .nil pass0 (pa_cons (pv 0) (pa_cons pe_int pa_nil))) pa_nil))))
      (pss_cons (ps_par (i := 4) (j := 5) rfl scNote.nd rfl rfl (by decide) rfl rfl
          (pa_cons (pe_ix ix_list (pv 3) (pe_call GD hr1 (by rfl) gD kD bD .nil pass0 (pa_cons (pv 0) (pa_cons (pe_callB call_len_seq (by rfl) ml PySem.boot_len (pa_cons (pv 3) pa_nil)) pa_nil))) (fun _ _ => rfl))
          (pa_cons (pe_ix ix_list (pv 3) (pe_call GD hr1 (by rfl) gD kD bD .nil pass0 (pa_cons (pv 0) (pa_cons (pe_callB call_len_seq (by rfl) ml PySem.boot_len (pa_cons (pv 3) pa_nil)) pa_nil))) (fun _ _ => rfl)) pa_nil)) (by rfl))
      (pss_cons (ps_if (pt_cmpR op_eq (pe_call GD hr1 (by rfl) gD kD bD .nil pass0 (pa_cons (pv 0) (pa_cons pe_int pa_nil))) pe_int (nomark _))
        (pss_one (ps_ret (pe_call GG hr (by rfl) gG kG bG .nil pass0 (pa_cons (pv 2) (pa_cons (pe_tup (pa_cons pe_str (pa_cons (pv 4) (pa_cons (pv 5) (pa_cons (pe_tup pa_nil) pa_nil))))) pa_nil))))) pss_nil)
      (pss_one (ps_ret (pe_call GG hr (by rfl) gG kG bG .nil pass0 (pa_cons (pv 2) (pa_cons (pe_tup (pa_cons pe_str (pa_cons (pe_ix ix_list (pv 3) (pe_op op_add pe_int
          (pe_call GD hr1 (by rfl) gD kD bD .nil pass0 (pa_cons (pv 0) (pa_cons (pe_op op_sub (pe_callB call_len_seq (by rfl) ml PySem.boot_len (pa_cons (pv 3) pa_nil)) pe_int) pa_nil)))) (fun _ _ => rfl)) (pa_cons pe_non pa_nil)))) pa_nil))))))), ?_⟩
    -- ends
    refine ⟨(by show 2 ≤ sizeLine; decide), fun p1 np1 => ⟨_, rfl, p1, pl, _, _, rfl, rfl, upd_same, same_upd np1 _ _ hpl, ?_, fun p2 np2 => ?_⟩⟩
    · rw [List.length_map]
      exact short_ok (by show 2 + ks.length ≤ 1000; omega)
    have s1 := same_upd (o := .lst [V.non, V.non]) np1
    have s2 := same_upd (o := .lst ([V.non, V.non] ++ ks.map V.str)) np2
    have hw2 := hw.same (s1.trans s2)
    have np2a : p2 ≠ a := ((hw.same s1).ne np2).symm
    refine ⟨_, rfl, a, b, 2, rfl, hw2, by omega, by decide, by decide, fun H3 x k3 hw3 hx => ⟨(by show 1 ≤ sizeLine; decide), fun p3 np3 => ?_⟩⟩
    have s3 := same_upd (o := .lst [V.str x]) np3
    have hp2 := s3 _ _ (k3 _ _ upd_same np2a)
    refine ⟨p2, p3, _, _, rfl, rfl, hp2, upd_same, ?_, fun E nE => ?_⟩
    · rw [List.length_append, List.length_map]
      exact short_ok (by show 2 + ks.length + 1 ≤ 1000; omega)
    have eL : ([V.non, V.non] ++ ks.map V.str) ++ [V.str x] = V.non :: V.non :: (ks ++ [x]).map V.str := by simp
    rw [eL]
    have s4 := same_upd (o := .lst (V.non :: V.non :: (ks ++ [x]).map V.str)) nE
    have hw5 := hw3.same (s3.trans s4)
    have nEa : E ≠ a := ((hw3.same s3).ne nE).symm
    have kk5 : KeepW a H (upd (upd H3 p3 (.lst [V.str x])) E (.lst (V.non :: V.non :: (ks ++ [x]).map V.str))) := (KeepW.of_same (s1.trans s2)).trans (k3.trans (KeepW.of_same (s3.trans s4)))
    have hE : (upd (upd H3 p3 (.lst [V.str x])) E (.lst (V.non :: V.non :: (ks ++ [x]).map V.str))) E = some (.lst (V.non :: V.non :: (ks ++ [x]).map V.str)) := upd_same
    have kxl : ∀ k, k ∈ ks ++ [x] → sl k ≤ 30 := fun k hk => by
      rcases List.mem_append.mp hk with z | z
      · have := kb k z
        omega
      · rw [List.mem_singleton.mp z]
        omega
    have len : (V.non :: V.non :: (ks ++ [x]).map V.str).length = ks.length + 3 := by simp
    have strAt : ∀ j : Nat, j < ks.length + 1 → ∃ k, (V.non :: V.non :: (ks ++ [x]).map V.str)[2 + j]? = some (V.str k) ∧ sl k ≤ 30 := by
      intro j hj
      have hj2 : j < (ks ++ [x]).length := by simp; omega
      refine ⟨(ks ++ [x])[j], ?_, kxl _ (List.getElem_mem hj2)⟩
      rw [Nat.add_comm 2 j, List.getElem?_cons_succ, List.getElem?_cons_succ, List.getElem?_map, List.getElem?_eq_getElem hj2]
      rfl
    have optAt : ∀ r : Int, 0 ≤ r → r < ((V.non :: V.non :: (ks ++ [x]).map V.str).length : Int) → ∃ o, atI (V.non :: V.non :: (ks ++ [x]).map V.str) r = some (optV o) ∧ shortO o := by
      intro r r0 r1
      rw [len] at r1
      have er : (r.toNat : Int) = r := by omega
      by_cases q0 : r = 0
      · exact ⟨none, by rw [q0]; exact atI_nat (j := 0) rfl, trivial⟩
      by_cases q1 : r = 1
      · exact ⟨none, by rw [q1]; exact atI_nat (j := 1) rfl, trivial⟩
      obtain ⟨k, hk, hkl⟩ := strAt (r.toNat - 2) (by omega)
      rw [show 2 + (r.toNat - 2) = r.toNat by omega] at hk
      have e := atI_nat hk
      rw [er] at e
      exact ⟨some k, e, hkl⟩
    -- low, high
    refine ⟨_, rfl, _, rfl, _, rfl, E, _, rfl, .inl (SqL.of hE), a, _, _, rfl, hw5, by omega, by rw [len]; omega, by rw [len]; omega, fun H6 r k6 hw6 r0 r1 => ?_⟩
    have hE6 := k6 _ _ hE nEa
    obtain ⟨lo, hlo, slo⟩ := optAt r r0 r1
    refine ⟨E, _, r, optV lo, rfl, rfl, SqL.of hE6, hlo, ?_⟩
    refine ⟨_, rfl, _, rfl, _, rfl, E, _, rfl, .inl (SqL.of hE6), a, _, _, rfl, hw6, by omega, by rw [len]; omega, by rw [len]; omega, fun H7 r2 k7 hw7 r20 r21 => ?_⟩
    have hE7 := k7 _ _ hE6 nEa
    obtain ⟨hi, hhi, shi⟩ := optAt r2 r20 r21
    refine ⟨E, _, r2, optV hi, rfl, rfl, SqL.of hE7, hhi, _, _, rfl, ?_⟩
    refine ⟨_, rfl, a, _, 3, rfl, hw7, by omega, by decide, by decide, fun H8 c k8 hw8 c0 c1 => ⟨rfl, _, rfl, ?_⟩⟩
    have hE8 := k8 _ _ hE7 nEa
    have kk8 : KeepW a H H8 := kk5.trans (k6.trans (k7.trans k8))
    refine ite2 (fun _ => ?_) (fun _ => ?_)
    · refine ⟨_, rfl, _, rfl, _, rfl, Nat.zero_le _, fun e0 ne0 => ⟨(by show 4 ≤ sizeLine; decide), fun t nt => ?_⟩⟩
      have s9 := same_upd (o := .tup []) ne0
      have s10 := same_upd (o := .tup [V.str "entries", optV lo, optV hi, V.ref e0]) nt
      have s11 := s9.trans s10
      refine ⟨d, .ref t, rs, .ent lo hi (.tuple []), rfl, Same.rd s11 (kk8.rd hw hd), hrs, hrk, .tup upd_same (.cons (.str _) (.cons (optV_dt lo) (.cons (optV_dt hi) (.cons (.tup (s10 _ _ upd_same) .nil) .nil)))), ⟨slo, shi, rfl⟩, fun H9 v' t' sm dt ok => ?_⟩
      exact q H9 v' t' (kk8.trans (KeepW.of_same (s11.trans sm))) ((hw8.same (s11.trans sm)).more (by omega)) dt ok
    · refine ⟨_, rfl, _, rfl, _, rfl, _, rfl, E, _, rfl, .inl (SqL.of hE8), _, _, rfl, rfl, a, _, _, rfl, hw8, by omega, by rw [len]; omega, by rw [len]; omega, fun H9 r3 k9 hw9 r30 r31 => ?_⟩
      have hE9 := k9 _ _ hE8 nEa
      rw [len] at r31
      obtain ⟨k, hk, hkl⟩ := strAt r3.toNat (by omega)
      have e := atI_nat hk
      rw [show ((2 + r3.toNat : Nat) : Int) = 2 + r3 by omega] at e
      have kk9 : KeepW a H H9 := kk8.trans k9
      refine ⟨2, r3, rfl, rfl, E, _, _, .str k, rfl, rfl, SqL.of hE9, e, (by show 3 ≤ sizeLine; decide), fun t nt => ?_⟩
      have s10 := same_upd (o := .tup [V.str "value", V.str k, V.non]) nt
      refine ⟨d, .ref t, rs, .val k .none, rfl, Same.rd s10 (kk9.rd hw hd), hrs, hrk, .tup upd_same (.cons (.str _) (.cons (.str _) (.cons .non .nil))), ⟨hkl, rfl⟩, fun H10 v' t' sm dt ok => ?_⟩
      exact q H10 v' t' (kk9.trans (KeepW.of_same (s10.trans sm))) ((hw9.same (s10.trans sm)).more (by omega)) dt ok
end
end K46

set_option Elab.async false
set_option linter.all false
set_option maxRecDepth 100000
set_option maxHeartbeats 8000000
/-! K46R: _law_crossed. -/
namespace K46
open PySem PySem.Spec PyProof.Rows L2
/-- a node as the law's nodes are -/
structure NdOk (n : Nd) : Prop where
  n0 : 0 ≤ n.num
  n1 : n.num ≤ 1000
  s0 : 0 ≤ n.snap
  s1 : n.snap ≤ 1000
  notes : ∀ t, t ∈ n.notes → NtOk t
  keys : ∀ k, k ∈ n.keys → sl k ≤ 30
theorem atI_any {α : Type} (xs : List α) (i : Int) (h0 : -(xs.length : Int) ≤ i) (h1 : i < xs.length) : ∃ x, atI xs i = some x ∧ x ∈ xs := by
  unfold atI ixN
  by_cases c : 0 ≤ i
  · rw [if_pos c, if_pos h1]
    have hj : i.toNat < xs.length := by omega
    exact ⟨xs[i.toNat], by simp [List.getElem?_eq_getElem hj], List.getElem_mem hj⟩
  · rw [if_neg c, if_pos h0]
    have hj : (i + xs.length).toNat < xs.length := by omega
    exact ⟨xs[(i + xs.length).toNat], by simp [List.getElem?_eq_getElem hj], List.getElem_mem hj⟩
theorem atI_ints (xs : List Int) (i : Int) (h0 : -(xs.length : Int) ≤ i) (h1 : i < xs.length) : ∃ x, atI (xs.map V.int) i = some (.int x) ∧ x ∈ xs := by
  obtain ⟨v, e, hm⟩ := atI_any (xs.map V.int) i (by rw [List.length_map]; exact h0) (by rw [List.length_map]; exact h1)
  obtain ⟨x, hx, rfl⟩ := List.mem_map.mp hm
  exact ⟨x, e, hx⟩
theorem cut_take (xs : List V) (k : Nat) : cutV xs none (some (k : Int)) = xs.take k := by
  unfold cutV
  rw [HT.sIx_nat, HT.sIx_none, Nat.sub_zero, List.drop_zero]
  by_cases h : k ≤ xs.length
  · rw [Nat.min_eq_left h]
  · rw [Nat.min_eq_right (by omega), List.take_length, List.take_of_length_le (by omega)]
theorem tups_upd_dK {H : Hp} {a : Addr} {o : HO} {kvs : List (Key × V)} (h : H a = some (.dK kvs)) : Tups H (upd H a o) := fun b ys e => by
  rw [upd_ne (fun z => by rw [z, h] at e; cases e)]
  exact e
theorem paired_mono {H H' : Hp} (k : Tups H H') : ∀ {rv : List V} {ns : List Nd}, Paired (NdAt H) rv ns → Paired (NdAt H') rv ns
  | _, _, .nil => .nil
  | _, _, .cons h t => .cons (h.mono k) (paired_mono k t)
theorem paired_append {α β : Type} {F : α → β → Prop} : ∀ {l l' : List α} {r r' : List β}, Paired F l r → Paired F l' r' → Paired F (l ++ l') (r ++ r')
  | _, _, _, _, .nil, b => b
  | _, _, _, _, .cons h t, b => .cons h (paired_append t b)
theorem paired_erase {α β : Type} {F : α → β → Prop} : ∀ {l : List α} {r : List β} (i : Nat), Paired F l r → Paired F (l.eraseIdx i) (r.eraseIdx i)
  | _, _, _, .nil => .nil
  | _, _, 0, .cons h t => t
  | _, _, i + 1, .cons h t => .cons h (paired_erase i t)
/-! ### the rows that are being made -/
/-- the state of the loop that makes the rows -/
structure CS (H0 H : Hp) (a pl R Nu : Addr) (ks : List Str) (xs : List Int) (rv : List V) (ns : List Nd) (b : Nat) : Prop where
  keep : KeepW a H0 H
  well : WellAt H a b
  pool : H pl = some (.lst (ks.map V.str))
  nums : H Nu = some (.lst (xs.map V.int))
  rows : H R = some (.lst rv)
  rp : Paired (NdAt H) rv ns
/-- what does not change -/
structure CN (H0 : Hp) (a pl R Nu : Addr) : Prop where
  npl : pl ≠ a
  nR : R ≠ a
  nN : Nu ≠ a
  fR : H0 R = none
  fN : H0 Nu = none
  RN : R ≠ Nu
  Rp : R ≠ pl
theorem CS.same {H0 H H' : Hp} {a pl R Nu : Addr} {ks : List Str} {xs : List Int} {rv : List V} {ns : List Nd} {b : Nat} (c : CS H0 H a pl R Nu ks xs rv ns b) (s : Same H H') : CS H0 H' a pl R Nu ks xs rv ns b :=
  ⟨c.keep.trans (KeepW.of_same s), c.well.same s, s _ _ c.pool, s _ _ c.nums, s _ _ c.rows, paired_mono (Same.tups s) c.rp⟩
theorem CS.drawn {H0 H H' : Hp} {a pl R Nu : Addr} {ks : List Str} {xs : List Int} {rv : List V} {ns : List Nd} {b b' : Nat} (c : CS H0 H a pl R Nu ks xs rv ns b) (N : CN H0 a pl R Nu) (k : KeepW a H H') (w : WellAt H' a b') : CS H0 H' a pl R Nu ks xs rv ns b' :=
  ⟨c.keep.trans k, w, k _ _ c.pool N.npl, k _ _ c.nums N.nN, k _ _ c.rows N.nR, paired_mono (k.tups c.well) c.rp⟩
theorem CS.more {H0 H : Hp} {a pl R Nu : Addr} {ks : List Str} {xs : List Int} {rv : List V} {ns : List Nd} {b b' : Nat} (c : CS H0 H a pl R Nu ks xs rv ns b) (l : b ≤ b') : CS H0 H a pl R Nu ks xs rv ns b' :=
  ⟨c.keep, c.well.more l, c.pool, c.nums, c.rows, c.rp⟩
theorem CS.ne {H0 H : Hp} {a pl R Nu D : Addr} {ks : List Str} {xs : List Int} {rv : List V} {ns : List Nd} {b : Nat} (c : CS H0 H a pl R Nu ks xs rv ns b) (n : H D = none) : D ≠ a ∧ D ≠ pl ∧ D ≠ R ∧ D ≠ Nu ∧ H0 D = none :=
  ⟨(c.well.ne n).symm, (ne_of_none c.pool n).symm, (ne_of_none c.rows n).symm, (ne_of_none c.nums n).symm, by
    cases q : H0 D with
    | none => rfl
    | some o =>
      have := c.keep D o q (c.well.ne n).symm
      rw [n] at this
      cases this⟩
/-- a list of one's own is written -/
theorem CS.own {H0 H : Hp} {a pl R Nu D : Addr} {ks : List Str} {xs : List Int} {rv : List V} {ns : List Nd} {b : Nat} {o : HO} (c : CS H0 H a pl R Nu ks xs rv ns b) (n : D ≠ a ∧ D ≠ pl ∧ D ≠ R ∧ D ≠ Nu ∧ H0 D = none) (t : Tups H (L2.upd H D o)) : CS H0 (L2.upd H D o) a pl R Nu ks xs rv ns b :=
  ⟨c.keep.upd0 n.2.2.2.2, c.well.upd n.1, by rw [upd_ne n.2.1.symm]; exact c.pool, by rw [upd_ne n.2.2.2.1.symm]; exact c.nums, by rw [upd_ne n.2.2.1.symm]; exact c.rows, paired_mono t c.rp⟩
/-- the rows are written -/
theorem CS.put {H0 H : Hp} {a pl R Nu : Addr} {ks : List Str} {xs : List Int} {rv rv' : List V} {ns ns' : List Nd} {b : Nat} (c : CS H0 H a pl R Nu ks xs rv ns b) (N : CN H0 a pl R Nu) (rp : Paired (NdAt H) rv' ns') : CS H0 (L2.upd H R (.lst rv')) a pl R Nu ks xs rv' ns' b :=
  ⟨c.keep.upd0 N.fR, c.well.upd N.nR, by rw [upd_ne N.Rp.symm]; exact c.pool, by rw [upd_ne N.RN.symm]; exact c.nums, upd_same, paired_mono (tups_upd_lst c.rows) rp⟩
/-- what holds of the rows so far -/
structure CM (xs : List Int) (i : Nat) (ns : List Nd) : Prop where
  nums : ns.map Nd.num = xs.take i
  ok : ∀ n, n ∈ ns → NdOk n
  cr : Crossed ns
theorem CM.len {xs : List Int} {i : Nat} {ns : List Nd} (h : CM xs i ns) : ns.length ≤ i := by
  have e : (ns.map Nd.num).length = (xs.take i).length := by rw [h.nums]
  rw [List.length_map, List.length_take] at e
  omega
theorem CM.add {xs : List Int} {i : Nat} {ns : List Nd} {n : Nd} (h : CM xs i ns) (hx : xs[i]? = some n.num) (hp : xs.Pairwise (· < ·)) (ok : NdOk n) (sn : n.snap < n.num) (ap : ∀ m, m ∈ ns → ∀ k, k ∈ m.keys → k ∈ n.keys → m.num ≤ n.snap) : CM xs (i + 1) (ns ++ [n]) := by
  have lt : ∀ m, m ∈ ns → m.num < n.num := by
    intro m hm
    have h1 : m.num ∈ xs.take i := by
      rw [← h.nums]
      exact List.mem_map.mpr ⟨m, hm, rfl⟩
    obtain ⟨j, hj, e⟩ := List.getElem_of_mem h1
    have hj2 : j < i := by
      rw [List.length_take] at hj
      omega
    rw [List.getElem_take] at e
    obtain ⟨hi, ei⟩ := List.getElem?_eq_some_iff.mp hx
    have := List.pairwise_iff_getElem.mp hp j i (by omega) hi hj2
    omega
  refine ⟨?_, fun m hm => ?_, ⟨fun m hm => ?_, fun m hm m' hm' hl k k1 k2 => ?_⟩⟩
  · rw [List.map_append, h.nums, take_snoc hx]
    rfl
  · rcases List.mem_append.mp hm with z | z
    · exact h.ok m z
    · rw [List.mem_singleton.mp z]
      exact ok
  · rcases List.mem_append.mp hm with z | z
    · exact h.cr.snap m z
    · rw [List.mem_singleton.mp z]
      exact sn
  · rcases List.mem_append.mp hm with z | z
    · rcases List.mem_append.mp hm' with z' | z'
      · exact h.cr.apart m z m' z' hl k k1 k2
      · rw [List.mem_singleton.mp z'] at k2 ⊢
        exact ap m z k k1 k2
    · rw [List.mem_singleton.mp z] at hl
      rcases List.mem_append.mp hm' with z' | z'
      · have := lt m' z'
        omega
      · rw [List.mem_singleton.mp z'] at hl
        omega
section
variable {P : Program} {w : World} {K : PySem.W.Frag} {mg : Str → Option Value} {base : Heap}
def spCrossed : Sp := fun vs H Q _ => ∃ a b pl ks m, vs = [.ref a, .ref pl, .int m] ∧ WellAt H a b ∧ b ≤ 600000 ∧ H pl = some (.lst (ks.map V.str)) ∧ pl ≠ a ∧ ks ≠ [] ∧ ks.length ≤ 8 ∧ (∀ k, k ∈ ks → sl k ≤ 20) ∧ 1 ≤ m ∧ m ≤ 8 ∧
  ∀ (H' : Hp) (p : Addr) (kvs : List (Key × V)) (ns : List Nd), KeepW a H H' → WellAt H' a (b + 2000) → H p = none → H' p = some (.dK kvs) → NdsAt H' kvs ns → Crossed ns → (∀ n, n ∈ ns → NdOk n) → Q (.ref p) H'
abbrev nCr : List Str := ["_law_well_here", "_law_pool_here", "_law_many", "_law_rows", "_law_numbers_here", "_law_k", "_law_ahead", "_law_snapshot", "_law_barred", "_law_row", "_law_keys", "_law_notes", "_law_nodes", "_law_key", "_law_j"]
theorem scCr : FnScope nCr ["_law_well_here", "_law_pool_here", "_law_many"] (defScope sCrossed) := ⟨rfl, rfl, rfl, by decide +kernel, rfl, by decide +kernel, by decide +kernel⟩
structure TxCr (mg : Str → Option Value) : Prop where
  int : mg "int" = none
  list : mg "list" = none
  tuple : mg "tuple" = none
  sorted : mg "sorted" = none
  len : mg "len" = none
  range : mg "range" = none
theorem ok_crossed {f fD fN fM : Addr} {fd fdD fdN fdM : FuncData} (F : FnP K "_law_crossed" sCrossed f fd) (GD : FnOk P w K mg base CX0 1 fD fdD ["_law_well_here", "_law_many"] spDip) (kD : PySem.W.keepIn K (.ref fD) = true) (bD : Binds K fdD ["_law_well_here", "_law_many"] []) (gD : mg "_law_dip" = some (.ref fD))
    (GN : FnOk P w K mg base CX0 3 fN fdN ["_law_well_here", "_law_pool_here", "_law_rows"] spNote) (kN : PySem.W.keepIn K (.ref fN) = true) (bN : Binds K fdN ["_law_well_here", "_law_pool_here", "_law_rows"] []) (gN : mg "_law_note" = some (.ref fN))
    (GM : FnOk P w K mg base CX0 2 fM fdM ["_law_well_here", "_law_many"] spNumbers) (kM : PySem.W.keepIn K (.ref fM) = true) (bM : Binds K fdM ["_law_well_here", "_law_many"] []) (gM : mg "_law_numbers" = some (.ref fM)) (T : TxCr mg) :
    FnOk P w K mg base CX0 4 f fd ["_law_well_here", "_law_pool_here", "_law_many"] spCrossed := by
  refine okN F scCr (fun vs H Q E h => ?_) (fun cdv A outer s H vs Q E hr h => ?_)
  · obtain ⟨a, b, pl, ks, m, rfl, _⟩ := h
    rfl
  · obtain ⟨a, b, pl, ks, m, rfl, hw, hb, hpl, npl, kn, kl, kb, m0, m1, q⟩ := h
    have hr1 : Room 1 _ := hr.mono (by decide)
    have hr2 : Room 2 _ := hr.mono (by decide)
    have hu := hu_of hr
    refine ⟨_, pss_cons (ps_par (i := 3) (j := 4) rfl scCr.nd rfl rfl (by decide) rfl rfl (pa_cons (pe_lst pa_nil) (pa_cons (pe_call GM hr2 (by rfl) gM kM bM .nil pass0 (pa_cons (pv 0) (pa_cons (pv 2) pa_nil))) pa_nil)) (by rfl))
      (pss_cons (ps_for PassesOwn.never rfl (pi_range1 (by rfl) T.range (pa_cons (pv 2) pa_nil)) (pg_name (i := 5) scCr.nd rfl (.inl rfl))
        (pss_cons (ps_set (i := 6) scCr.nd rfl (.inl rfl) (pe_op op_cat (pe_lst (pa_cons pe_int pa_nil)) (pe_slice sl_list (pv 4) po_none (po_some (pv 5)))))
        (pss_cons (ps_set (i := 7) scCr.nd rfl (.inl rfl) (pe_ix ix_list (pe_lst (pa_cons pe_int
            (pa_cons (pe_ix ix_list (pv 6) (pe_op op_sub (pe_un un_neg pe_int) (pe_op op_mul (pe_call GD hr1 (by rfl) gD kD bD .nil pass0 (pa_cons (pv 0) (pa_cons pe_int pa_nil))) (pe_callTy call_int1 (by rfl) T.int (by decide +kernel) (pa_cons (pe_cmpR op_gt (pv 5) pe_int (nomark _)) pa_nil)))) (fun _ _ => rfl))
            (pa_cons (pe_ix ix_list (pv 6) (pe_call GD hr1 (by rfl) gD kD bD .nil pass0 (pa_cons (pv 0) (pa_cons (pe_op op_add (pv 5) pe_int) pa_nil))) (fun _ _ => rfl)) pa_nil))))
            (pe_call GD hr1 (by rfl) gD kD bD .nil pass0 (pa_cons (pv 0) (pa_cons pe_int pa_nil))) (fun _ _ => rfl)))
        (pss_cons (ps_set (i := 8) scCr.nd rfl (.inr rfl) (pe_lst pa_nil))
        (pss_cons (ps_for PassesOwn.never rfl (pi_list (pv 3)) (pg_name (i := 9) scCr.nd rfl (.inl rfl))
          (pss_one (ps_if (pt_cmpR op_gt (pe_ix ix_tup (pv 9) pe_int (fun _ _ => rfl)) (pv 7) (nomark _))
            (pss_one (ps_set (i := 8) scCr.nd rfl (.inr rfl) (pe_op op_cat (pv 8) (pe_callTy call_list_of (by rfl) T.list (by decide +kernel) (pa_cons (pe_ix ix_tup (pv 9) pe_int (fun _ _ => rfl)) pa_nil))))) pss_nil)))
        (pss_cons (ps_set (i := 10) scCr.nd rfl (.inl rfl) (pe_callTy call_tuple_of (by rfl) T.tuple (by decide +kernel) (pa_cons (pe_lc (own := [("_law_key", 13)]) (g := gName 13) (te := tVar 13)
            (tt := tAnd (tTest (tOp (rIn K true) (tVar 13) (tVar 8))) (tTest (tOp rEq (tCall spDip [] E0 (tCons (tVar 0) (tCons (tC (.int 2)) tNil))) (tC (.int 0))))) rfl scCr.nd
            (pi_list (pe_callB cr_sortedS (by rfl) T.sorted (by decide +kernel) (pa_cons (pv 1) pa_nil))) (blkOk_by (N := nCr) (sc := defScope sCrossed) (by decide +kernel))
            (fun _ _ _ _ _ => pg_name (i := 13) scCr.nd rfl (.inl rfl))
            (fun _ _ _ _ _ => pts_one (PW.pt (pw_and (pt_cmpR op_notIn_seq (pv 13) (pv 8) (by rfl)) (pw_and1 (pt_cmpR op_eq (pe_call GD hr1 (by rfl) gD kD bD .nil pass0 (pa_cons (pv 0) (pa_cons pe_int pa_nil))) pe_int (nomark _))))))
            (fun _ _ _ _ _ => pv 13)) pa_nil)))
        (pss_cons (ps_set (i := 11) scCr.nd rfl (.inl rfl) (pe_callTy call_tuple_of (by rfl) T.tuple (by decide +kernel) (pa_cons (pe_lc (own := [("_law_j", 14)]) (g := gName 14) (tt := tYes)
            (te := tCall spNote [] E0 (tCons (tVar 0) (tCons (tVar 1) (tCons tDNewK tNil)))) rfl scCr.nd
            (pi_range1 (by rfl) T.range (pa_cons (pe_call GD hr1 (by rfl) gD kD bD .nil pass0 (pa_cons (pv 0) (pa_cons pe_int pa_nil))) pa_nil)) (blkOk_by (N := nCr) (sc := defScope sCrossed) (by decide +kernel))
            (fun _ _ _ _ _ => pg_name (i := 14) scCr.nd rfl (.inl rfl)) (fun _ _ _ _ _ => pts_nil)
            (fun _ _ _ _ _ => pe_call GN hr (by rfl) gN kN bN .nil pass0 (pa_cons (pv 0) (pa_cons (pv 1) (pa_cons pe_dnewK pa_nil))))) pa_nil)))
        (pss_one (ps_expr (pe_bm PySem.F.plainAttrs_list PySem.F.slot_list_append PySem.F.type_list_append mt_append (pv 3) (pa_cons (pe_tup (pa_cons (pe_ix ix_list (pv 4) (pv 5) (fun _ _ => rfl)) (pa_cons (pv 7) (pa_cons (pv 11)
            (pa_cons (pe_slice sl_tupA (pv 10) po_none (po_some pe_int)) pa_nil))))) pa_nil)))))))))))
      (pss_cons (ps_set (i := 12) scCr.nd rfl (.inl rfl) pe_dnewK)
      (pss_cons (ps_for PassesOwn.never rfl (pi_range1 (by rfl) T.range (pa_cons (pv 2) pa_nil)) (pg_name (i := 5) scCr.nd rfl (.inl rfl))
        (pss_cons (ps_set (i := 9) scCr.nd rfl (.inl rfl) (pe_bm PySem.F.plainAttrs_list PySem.F.slot_list_pop PySem.F.type_list_pop mt_popAt (pv 3) (pa_cons (pe_call GD hr1 (by rfl) gD kD bD .nil pass0 (pa_cons (pv 0) (pa_cons (pe_callB call_len_seq (by rfl) T.len PySem.boot_len (pa_cons (pv 3) pa_nil)) pa_nil))) pa_nil)))
        (pss_one (ps_dput hu (pv 12) (pe_ix ix_tup (pv 9) pe_int (fun _ _ => rfl)) (pv 9) rfl))))
      (pss_one (ps_ret (pv 12)))))), ?_⟩
    -- rows, numbers = [], ..
    refine ⟨Nat.zero_le _, fun R nR => ?_⟩
    have s1 := same_upd (o := .lst []) nR
    have nRa : R ≠ a := (hw.ne nR).symm
    refine ⟨_, rfl, _, rfl, a, b, m, rfl, hw.same s1, by omega, by omega, m1, fun H1 Nu xs k1 hw1 nNu hNu xl xp xb => ⟨_, _, rfl, ?_⟩⟩
    have N : CN H a pl R Nu := ⟨npl, nRa, ((hw.same s1).ne nNu).symm, nR, s1.free nNu, (fun e => by rw [← e, upd_same] at nNu; cases nNu), (ne_of_none hpl nR).symm⟩
    have C1 : CS H H1 a pl R Nu ks xs [] [] (b + 20) := ⟨(KeepW.of_same s1).trans k1, hw1, k1 _ _ (s1 _ _ hpl) npl, hNu, k1 _ _ upd_same nRa, .nil⟩
    have xl8 : xs.length ≤ 8 := by omega
    -- for k in range(many)
    refine ⟨_, rfl, m, rfl, by omega, by omega, for_range (lo := 0) (n := m.toNat) (fun i σ H' => ∃ rv ns o5 o6 o7 o8 o9 o10 o11, σ = [some (.ref a), some (.ref pl), some (.int m), some (.ref R), some (.ref Nu), o5, o6, o7, o8, o9, o10, o11, none, none, none] ∧ CS H H' a pl R Nu ks xs rv ns (b + 20 + 150 * i) ∧ CM xs i ns)
      ⟨[], [], none, none, none, none, none, none, none, rfl, C1, ⟨rfl, (fun n hn => by cases hn), ⟨(fun n hn => by cases hn), (fun n hn => by cases hn)⟩⟩⟩ (fun i σ H' hi pr => ?_) (fun σ H' pr => ?_)⟩
    · obtain ⟨rv, ns, o5, o6, o7, o8, o9, o10, o11, rfl, C, M⟩ := pr
      have hi8 : i < 8 := by omega
      have hix : i < xs.length := by omega
      have gx : xs[i]? = some xs[i] := List.getElem?_eq_getElem hix
      have xbi := xb xs[i] (List.getElem_mem hix)
      have rl : rv.length = ns.length := paired_len C.rp
      have nl := M.len
      -- ahead = [0] + numbers[:k]
      refine ⟨(by show 1 ≤ sizeLine; decide), fun z0 nz0 => ⟨_, rfl, _, rfl, (i : Int), congrArg V.int (Int.zero_add _), Nu, _, rfl, SqL.of (same_upd nz0 _ _ C.nums), fun z1 nz1 => ?_⟩⟩
      have sz0 := same_upd (o := .lst [V.int 0]) nz0
      have sz1 := same_upd (o := .lst (cutV (xs.map V.int) none (some (i : Int)))) nz1
      refine ⟨z0, z1, _, _, rfl, rfl, sz1 _ _ upd_same, upd_same, ?_, fun A nA => ?_⟩
      · have e := cutV_length (xs.map V.int) none (some (i : Int))
        rw [List.length_map] at e
        exact short_ok (by show 1 + (cutV (xs.map V.int) none (some (i : Int))).length ≤ 1000; omega)
      have eA : [V.int 0] ++ cutV (xs.map V.int) none (some (i : Int)) = (0 :: xs.take i).map V.int := by
        rw [cut_take, List.map_cons, List.map_take]
        rfl
      rw [eA]
      have sA := same_upd (o := .lst ((0 :: xs.take i).map V.int)) nA
      have C2 := C.same (sz0.trans (sz1.trans sA))
      have alen : ((0 :: xs.take i).length : Int) = i + 1 := by
        rw [List.length_cons, List.length_take]
        omega
      have nAa : A ≠ a := by
        have e1 := C.same (sz0.trans sz1)
        exact (e1.well.ne nA).symm
      have memOk : ∀ y, y ∈ (0 :: xs.take i) → 0 ≤ y ∧ y < xs[i] ∧ y ≤ 1000 := by
        intro y hy
        rcases List.mem_cons.mp hy with z | z
        · rw [z]
          omega
        · obtain ⟨j, hj, e⟩ := List.getElem_of_mem z
          have hj2 : j < i := by
            rw [List.length_take] at hj
            omega
          rw [List.getElem_take] at e
          have h1 := List.pairwise_iff_getElem.mp xp j i (by omega) hix hj2
          have h2 := xb xs[j] (List.getElem_mem (by omega))
          omega
      -- snapshot
      have w2 := C2.well
      refine ⟨_, rfl, 1, rfl, _, rfl, a, _, 2, rfl, w2, by omega, by decide, by decide, fun H3 d k3 w3 d0 d1 => ⟨_, rfl, _, _, rfl, rfl, .inr ⟨_, rfl, ?_⟩⟩⟩
      have C3 := C2.drawn N k3 w3
      have hA3 := k3 _ _ upd_same nAa
      obtain ⟨s2, at2, ms2⟩ : ∃ y, atI ((0 :: xs.take i).map V.int) (-1 - d * (if decide ((0 : Int) < 0 + (i : Int)) = true then 1 else 0)) = some (.int y) ∧ y ∈ (0 :: xs.take i) := by
        refine atI_ints _ _ ?_ ?_
        · rw [alen]
          by_cases z : (0 : Int) < 0 + (i : Int)
          · rw [decide_eq_true z, if_pos rfl]
            omega
          · rw [decide_eq_false z, if_neg Bool.false_ne_true]
            omega
        · rw [alen]
          by_cases z : (0 : Int) < 0 + (i : Int)
          · rw [decide_eq_true z, if_pos rfl]
            omega
          · rw [decide_eq_false z, if_neg Bool.false_ne_true]
            omega
      refine ⟨d, _, rfl, rfl, .inl ⟨by omega, by omega⟩, _, _, rfl, rfl, A, _, _, .int s2, rfl, rfl, SqL.of hA3, at2, ?_⟩
      refine ⟨_, rfl, _, rfl, _, rfl, _, _, rfl, rfl, a, _, _, rfl, w3, by omega, by omega, by omega, fun H4 e k4 w4 e0 e1 => ?_⟩
      have C4 := C3.drawn N k4 w4
      have hA4 := k4 _ _ hA3 nAa
      obtain ⟨s3, at3, ms3⟩ : ∃ y, atI ((0 :: xs.take i).map V.int) e = some (.int y) ∧ y ∈ (0 :: xs.take i) := atI_ints _ _ (by omega) (by omega)
      refine ⟨A, _, e, .int s3, rfl, rfl, SqL.of hA4, at3, (by show 3 ≤ sizeLine; decide), fun T1 nT1 => ?_⟩
      have sT1 := same_upd (o := .lst [V.int 0, V.int s2, V.int s3]) nT1
      have C5 := C4.same sT1
      refine ⟨_, rfl, a, _, 3, rfl, C5.well, by omega, by decide, by decide, fun H6 g k6 w6 g0 g1 => ?_⟩
      have C6 := C5.drawn N k6 w6
      have hT6 := k6 _ _ upd_same (C4.well.ne nT1).symm
      obtain ⟨sn, atn, msn⟩ : ∃ y, atI ([0, s2, s3].map V.int) g = some (.int y) ∧ y ∈ [0, s2, s3] := atI_ints _ _ (by show -(3 : Int) ≤ g; omega) (by show g < (3 : Int); omega)
      have snOk : 0 ≤ sn ∧ sn < xs[i] ∧ sn ≤ 1000 := by
        rcases List.mem_cons.mp msn with z | z
        · rw [z]
          omega
        · rcases List.mem_cons.mp z with z | z
          · rw [z]
            exact memOk s2 ms2
          · rw [List.mem_singleton.mp z]
            exact memOk s3 ms3
      refine ⟨T1, _, g, .int sn, rfl, rfl, SqL.of hT6, atn, ?_⟩
      -- barred = []
      refine ⟨Nat.zero_le _, fun B0 nB0 => ?_⟩
      have C7 := C6.same (same_upd (o := .lst []) nB0)
      -- for row in rows
      refine ⟨_, rfl, R, rfl, ⟨_, SqL.of C7.rows⟩, for_list (K := K) (a := R) (xs := rv) (fun j σ H' => ∃ B bs o9, σ = [some (.ref a), some (.ref pl), some (.int m), some (.ref R), some (.ref Nu), some (.int (0 + (i : Int))), some (.ref A), some (.int sn), some (.ref B), o9, o10, o11, none, none, none] ∧
          CS H H' a pl R Nu ks xs rv ns (b + 20 + 150 * i + 3) ∧ H' B = some (.lst (bs.map V.str)) ∧ bs.length ≤ 8 * j ∧ ∀ n, n ∈ ns.take j → sn < n.num → ∀ k, k ∈ n.keys → k ∈ bs)
        ⟨B0, [], o9, rfl, C7, upd_same, Nat.le_refl _, fun n hn => by rw [List.take_zero] at hn; cases hn⟩ (fun j σ H' _ ⟨_, _, _, _, C, _⟩ => SqL.of C.rows) (fun j v σ H' hv p8 => ?_) (fun σ H' p8 => ?_)⟩
      · obtain ⟨B, bs, o9, rfl, C8, hB, bl, bk⟩ := p8
        obtain ⟨n, hn, hnA⟩ := paired_get C8.rp hv
        obtain ⟨ra, an, ak, nv, rfl, hra, han, hnv, hak⟩ := hnA.parts
        have hjl : j < rv.length := (List.getElem?_eq_some_iff.mp hv).1
        have tk : ∀ n', n' ∈ ns.take (j + 1) → n' ∈ ns.take j ∨ n' = n := by
          intro n' h'
          rw [take_snoc hn] at h'
          rcases List.mem_append.mp h' with z | z
          · exact .inl z
          · exact .inr (List.mem_singleton.mp z)
        refine ⟨_, rfl, ra, _, 0, _, rfl, rfl, SqT.of hra, atI_nat (j := 0) rfl, _, rfl, _, _, rfl, rfl, _, rfl, ?_⟩
        refine ite2 (fun y => ?_) (fun y => ?_)
        · refine ⟨_, rfl, _, rfl, ra, _, 3, _, rfl, rfl, SqT.of hra, atI_nat (j := 3) rfl, ak, _, rfl, .inr (SqT.of hak), fun l nl2 => ?_⟩
          have sl := same_upd (o := .lst (n.keys.map V.str)) nl2
          have fk := hnA.fewK
          refine ⟨B, l, _, _, rfl, rfl, sl _ _ hB, upd_same, ?_, fun B2 nB2 => ?_⟩
          · rw [List.length_map, List.length_map]
            exact short_ok (by omega)
          have sB2 := same_upd (o := .lst (bs.map V.str ++ n.keys.map V.str)) nB2
          refine ⟨B2, bs ++ n.keys, _, rfl, C8.same (sl.trans sB2), by rw [upd_same, List.map_append], ?_, fun n' hn' hlt k hk => ?_⟩
          · rw [List.length_append]
            omega
          · rcases tk n' hn' with z | z
            · exact List.mem_append_left _ (bk n' z hlt k hk)
            · rw [z] at hk
              exact List.mem_append_right _ hk
        · refine ⟨B, bs, _, rfl, C8, hB, by omega, fun n' hn' hlt k hk => ?_⟩
          rcases tk n' hn' with z | z
          · exact bk n' z hlt k hk
          · rw [z] at hlt
            exact absurd (decide_eq_true hlt) y
      · obtain ⟨B, bs, o9, rfl, C8, hB, bl, bk⟩ := p8
        rw [rl, List.take_length] at bk
        have bl2 : bs.length ≤ 64 := by omega
        -- keys
        refine ⟨_, rfl, pl, ks, rfl, SqL.of C8.pool, by omega, fun ys p hp hs np => ⟨p, rfl, ⟨_, SqL.of upd_same⟩, fun D nD => ?_⟩⟩
        have sp := same_upd (o := .lst (ys.map V.str)) np
        have sD := same_upd (o := .lst []) nD
        have C9 := C8.same (sp.trans sD)
        have nDf := (C8.same sp).ne nD
        have npf := C8.ne np
        have npD : p ≠ D := fun e => by
          rw [← e, upd_same] at nD
          cases nD
        have nBD : B ≠ D := ne_of_none (sp _ _ hB) nD
        have nBa : B ≠ a := fun e => by
          obtain ⟨x, y, z, e2, _⟩ := C8.well
          rw [e, e2] at hB
          cases bs with
          | nil => cases hB
          | cons _ _ => cases hB
        have yl : ys.length ≤ 8 := by
          rw [hp.length_eq]
          exact kl
        refine walk_list (K := K) (a := p) (xs := ys.map V.str) (fun j H' => CS H H' a pl R Nu ks xs rv ns (b + 20 + 150 * i + 3 + j) ∧ H' p = some (.lst (ys.map V.str)) ∧ H' B = some (.lst (bs.map V.str)) ∧ ∃ zs : List Str, H' D = some (.lst (zs.map V.str)) ∧ zs.length ≤ j ∧ ∀ k, k ∈ zs → k ∈ ks ∧ k ∉ bs)
          ⟨C9, by rw [upd_ne npD, upd_same], sD _ _ (sp _ _ hB), [], upd_same, Nat.le_refl _, fun k hk => by cases hk⟩ (fun j H' _ pr => SqL.of pr.2.1) (fun j x H' hx pr => ?_) (fun H' pr => ?_)
        · obtain ⟨C10, hp10, hB10, zs, hD10, zl, zk⟩ := pr
          obtain ⟨k, hk, rfl⟩ := strs_get hx
          have hjl : j < ys.length := (List.getElem?_eq_some_iff.mp hk).1
          refine ⟨rfl, _, rfl, _, rfl, B, _, rfl, .inl (SqL.of hB10), rfl, flat_strs _, _, rfl, ?_⟩
          rw [inV_strs]
          by_cases hkb : k ∈ bs
          · rw [decide_eq_true hkb]
            exact iteF (iteF ⟨C10.more (by omega), hp10, hB10, zs, hD10, by omega, zk⟩)
          · rw [decide_eq_false hkb]
            refine iteT ⟨_, rfl, a, _, 2, rfl, C10.well, by omega, by decide, by decide, fun H11 c k11 w11 c0 c1 => ⟨rfl, _, rfl, ?_⟩⟩
            have C11 := C10.drawn N k11 w11
            have hp11 := k11 _ _ hp10 npf.1
            have hB11 := k11 _ _ hB10 nBa
            have hD11 := k11 _ _ hD10 nDf.1
            refine ite2 (fun _ => ?_) (fun _ => ?_)
            · refine ⟨_, rfl, _, hD11, ?_, C11.own nDf (tups_upd_lst hD11), by rw [upd_ne npD]; exact hp11, by rw [upd_ne nBD]; exact hB11, zs ++ [k], ?_, ?_, fun z hz => ?_⟩
              · rw [List.length_map]
                exact small1000 (by omega)
              · rw [upd_same, List.map_append]
                rfl
              · rw [List.length_append, List.length_singleton]
                omega
              · rcases List.mem_append.mp hz with q1 | q1
                · exact zk z q1
                · rw [List.mem_singleton.mp q1]
                  exact ⟨hp.mem_iff.mp (List.mem_of_getElem? hk), hkb⟩
            · exact ⟨C11.more (by omega), hp11, hB11, zs, hD11, by omega, zk⟩
        · obtain ⟨C10, hp10, hB10, zs, hD10, zl, zk⟩ := pr
          rw [List.length_map] at zl C10
          refine ⟨D, _, rfl, .inl ⟨SqL.of hD10, fun Tk nTk => ?_⟩⟩
          have sTk := same_upd (o := .tup (zs.map V.str)) nTk
          have C11 := C10.same sTk
          -- notes
          refine ⟨_, rfl, a, _, 3, rfl, C11.well, by omega, by decide, by decide, fun H12 c k12 w12 c0 c1 => ⟨c, rfl, by omega, by omega, fun D2 nD2 => ?_⟩⟩
          have C12 := C11.drawn N k12 w12
          have hTk12 : H12 Tk = some (.tup (zs.map V.str)) := (k12.tups C11.well) _ _ upd_same
          have sD2 := same_upd (o := .lst []) nD2
          have C13 := C12.same sD2
          have nD2f := C12.ne nD2
          refine walk_range (lo := 0) (n := c.toNat) (fun j H' => CS H H' a pl R Nu ks xs rv ns (b + 20 + 150 * i + 3 + 8 + 1 + 20 * j) ∧ H' Tk = some (.tup (zs.map V.str)) ∧ ∃ vs ts, H' D2 = some (.lst vs) ∧ DTs H' vs (ts.map Nt.d) ∧ ts.length = j ∧ ∀ t, t ∈ ts → NtOk t)
            ⟨C13.more (by omega), sD2 _ _ hTk12, [], [], upd_same, .nil, rfl, fun t ht => by cases ht⟩ (fun j H' hj pr => ?_) (fun H' pr => ?_)
          · obtain ⟨C14, hTk14, vs, ts, hD14, hvs, tl, tok⟩ := pr
            refine ⟨rfl, _, rfl, _, rfl, fun e ne => ?_⟩
            have se := same_upd (o := .dK []) ne
            have C15 := C14.same se
            refine ⟨a, _, pl, ks, e, [], rfl, C15.well, by omega, C15.pool, npl, kn, kl, kb, .inl upd_same, by decide, (fun k hk => by cases hk), fun H16 v' t' k16 w16 dt ok => ?_⟩
            have C16 := C15.drawn N k16 w16
            have hD16 := k16 _ _ (se _ _ hD14) nD2f.1
            have tp16 := (Same.tups se).trans (k16.tups C15.well)
            have tL := tups_upd_lst (o := .lst (vs ++ [v'])) hD16
            refine ⟨_, hD16, ?_, (C16.own nD2f tL).more (by omega), tL _ _ (tp16 _ _ hTk14), vs ++ [v'], ts ++ [t'], upd_same, ?_, ?_, fun t ht => ?_⟩
            · have e1 := hvs.length
              rw [List.length_map] at e1
              exact small1000 (by omega)
            · rw [List.map_append]
              exact DTs.append ((hvs.mono tp16).mono tL) (.cons (dt.mono tL) .nil)
            · rw [List.length_append, List.length_singleton, tl]
            · rcases List.mem_append.mp ht with q1 | q1
              · exact tok t q1
              · rw [List.mem_singleton.mp q1]
                exact ok
          · obtain ⟨C14, hTk14, vs, ts, hD14, hvs, tl, tok⟩ := pr
            refine ⟨D2, _, rfl, .inl ⟨SqL.of hD14, fun Tn nTn => ?_⟩⟩
            have sTn := same_upd (o := .tup vs) nTn
            have C17 := C14.same sTn
            have hTk17 := sTn _ _ hTk14
            have hvs17 := hvs.mono (Same.tups sTn)
            -- rows.append(..)
            refine ⟨_, rfl, .inl ⟨rfl, _, SqL.of C17.rows⟩, _, rfl, _, rfl, Nu, _, _, .int xs[i], rfl, rfl, SqL.of C17.nums, ?_, _, rfl, _, rfl, _, rfl, 2, rfl, Tk, _, rfl, SqT.of hTk17, ?_⟩
            · have e : (xs.map V.int)[i]? = some (.int xs[i]) := by
                rw [List.getElem?_map, gx]
                rfl
              exact at_of (Int.zero_add _) e
            have fin : ∀ (Hn : Hp) (tk : Addr), Same (upd H' Tn (.tup vs)) Hn → Hn tk = some (.tup ((zs.take 2).map V.str)) →
                [V.int xs[i], V.int sn, V.ref Tn, V.ref tk].length ≤ sizeLine ∧ ∀ p, Hn p = none → ∃ l xs' y, V.ref R = .ref l ∧ [V.ref p] = [y] ∧ (upd Hn p (.tup [V.int xs[i], V.int sn, V.ref Tn, V.ref tk])) l = some (.lst xs') ∧ xs'.length < sizeLine ∧
                  ∃ rv ns o5 o6 o7 o8 o9' o10 o11, ([some (.ref a), some (.ref pl), some (.int m), some (.ref R), some (.ref Nu), some (.int (0 + (i : Int))), some (.ref A), some (.int sn), some (.ref B), o9, some (.ref Tk), some (.ref Tn), none, none, none] : L2.St) = [some (.ref a), some (.ref pl), some (.int m), some (.ref R), some (.ref Nu), o5, o6, o7, o8, o9', o10, o11, none, none, none] ∧
                    CS H (upd (upd Hn p (.tup [V.int xs[i], V.int sn, V.ref Tn, V.ref tk])) l (.lst (xs' ++ [y]))) a pl R Nu ks xs rv ns (b + 20 + 150 * (i + 1)) ∧ CM xs (i + 1) ns := by
              intro Hn tk sn2 htk
              refine ⟨(by show 4 ≤ sizeLine; decide), fun tp ntp => ?_⟩
              have stp := same_upd (o := .tup [V.int xs[i], V.int sn, V.ref Tn, V.ref tk]) ntp
              have C18 := C17.same (sn2.trans stp)
              have ht2 : (zs.take 2).length ≤ 2 := by
                rw [List.length_take]
                omega
              have nd : NdAt (upd Hn tp (.tup [V.int xs[i], V.int sn, V.ref Tn, V.ref tk])) (.ref tp) ⟨xs[i], sn, ts, zs.take 2⟩ :=
                ⟨.tup upd_same (.cons (.int _) (.cons (.int _) (.cons (.tup (stp _ _ (sn2 _ _ upd_same)) (hvs17.mono (Same.tups (sn2.trans stp)))) (.cons (.tup (stp _ _ htk) (DTs.strs _)) .nil)))), by show ts.length ≤ 8; omega, by show (zs.take 2).length ≤ 8; omega⟩
              have zmem : ∀ k, k ∈ zs.take 2 → k ∈ ks ∧ k ∉ bs := fun k hk => zk k (List.mem_of_mem_take hk)
              refine ⟨R, rv, .ref tp, rfl, rfl, C18.rows, small1000 (by omega), rv ++ [.ref tp], ns ++ [⟨xs[i], sn, ts, zs.take 2⟩], _, _, _, _, _, _, _, rfl, (C18.put N (paired_append C18.rp (.cons nd .nil))).more (by omega), M.add gx xp ⟨by show 0 ≤ xs[i]; omega, xbi.2, snOk.1, snOk.2.2, tok, fun k hk => by have := kb k (zmem k hk).1; omega⟩ snOk.2.1 fun n hn k k1 k2 => ?_⟩
              have : ¬ sn < n.num := fun hlt => (zmem k k2).2 (bk n hn hlt k k1)
              show n.num ≤ sn
              omega
            refine ⟨fun hwh => ?_, fun hnw p2 np2 => ?_⟩
            · have e : zs.take 2 = zs := by
                have h2 := hwh.2
                rw [List.length_map] at h2
                have h3 : HT.sIx zs.length zs.length (some ((2 : Nat) : Int)) = min 2 zs.length := HT.sIx_nat _ _ 2
                have h4 : min 2 zs.length = zs.length := h3.symm.trans h2
                exact List.take_of_length_le (by omega)
              exact fin _ Tk (Same.refl _) (by rw [e]; exact hTk17)
            · have e : cutV (zs.map V.str) none (some (2 : Int)) = (zs.take 2).map V.str := by
                rw [show (2 : Int) = ((2 : Nat) : Int) from rfl, cut_take, List.map_take]
              refine fin _ p2 (same_upd np2) ?_
              rw [upd_same, e]
    · obtain ⟨rv, ns, o5, o6, o7, o8, o9, o10, o11, rfl, C, M⟩ := pr
      have nsl : ns.length = m.toNat := by
        have e : (ns.map Nd.num).length = (xs.take m.toNat).length := by rw [M.nums]
        rw [List.length_map, List.length_take] at e
        omega
      have ndup : (ns.map Nd.num).Nodup := by
        rw [M.nums, List.take_of_length_le (by omega)]
        exact xp.imp fun h => by omega
      -- nodes = {}
      intro Dn nDn
      have sDn := same_upd (o := .dK []) nDn
      have nDf := C.ne nDn
      refine ⟨_, rfl, m, rfl, by omega, by omega, for_range (lo := 0) (n := m.toNat) (fun i σ H2 => ∃ rv ns1 kvs ns2 o5 o9, σ = [some (.ref a), some (.ref pl), some (.int m), some (.ref R), some (.ref Nu), o5, o6, o7, o8, o9, o10, o11, some (.ref Dn), none, none] ∧ CS H H2 a pl R Nu ks xs rv ns1 (b + 20 + 150 * m.toNat + i) ∧
          H2 Dn = some (.dK kvs) ∧ Paired (KvOk H2) kvs ns2 ∧ (ns1 ++ ns2).Perm ns ∧ ns1.length + i = m.toNat)
        ⟨rv, ns, [], [], o5, o9, rfl, C.same sDn, upd_same, .nil, by rw [List.append_nil], by omega⟩ (fun i σ H2 hi pr => ?_) (fun σ H2 pr => ?_)⟩
      · obtain ⟨rv, ns1, kvs, ns2, o5, o9, rfl, C2, hDn, hkv, pm, cnt⟩ := pr
        have rl : rv.length = ns1.length := paired_len C2.rp
        -- row = rows.pop(..)
        refine ⟨_, rfl, .inl ⟨rfl, _, SqL.of C2.rows⟩, _, rfl, _, rfl, R, _, rfl, .inl (SqL.of C2.rows), a, _, _, rfl, C2.well, by omega, by omega, by omega, fun H3 c k3 w3 c0 c1 => ?_⟩
        have C3 := C2.drawn N k3 w3
        have hcl : c.toNat < rv.length := by omega
        have gv : rv[c.toNat]? = some rv[c.toNat] := List.getElem?_eq_getElem hcl
        obtain ⟨n, gn, hnA⟩ := paired_get C3.rp gv
        have hsq : seqIndex? c rv.length = some c.toNat := (ixN_seq (by
          unfold ixN
          rw [if_pos c0, if_pos (by omega)])).1
        refine ⟨R, rv, c, c.toNat, _, rfl, rfl, C3.rows, by omega, by omega, hsq, gv, ?_⟩
        obtain ⟨ra, an, ak, nv, era, hra, han, hnv, hak⟩ := hnA.parts
        have C4 := C3.put N (paired_erase c.toNat C3.rp)
        have tR := tups_upd_lst (o := .lst (rv.eraseIdx c.toNat)) C3.rows
        have hDn3 := k3 _ _ hDn nDf.1
        have hDn4 : (upd H3 R (.lst (rv.eraseIdx c.toNat))) Dn = some (.dK kvs) := by
          rw [upd_ne nDf.2.2.1]
          exact hDn3
        have hkv4 : Paired (KvOk (upd H3 R (.lst (rv.eraseIdx c.toNat)))) kvs ns2 := paired_imp (fun _ _ z => ⟨z.1, z.2.mono ((k3.tups C2.well).trans tR)⟩) hkv
        have pe := erase_perm ns1 c.toNat n gn
        have nn2 : n.num ∉ ns2.map Nd.num := by
          have h1 : ((ns1 ++ ns2).map Nd.num).Nodup := (pm.map Nd.num).nodup_iff.mpr ndup
          rw [List.map_append, List.nodup_append] at h1
          intro h2
          exact h1.2.2 n.num (List.mem_map.mpr ⟨n, List.mem_of_getElem? gn, rfl⟩) n.num h2 rfl
        have vn : valV kvs (Sum.inl n.num : Key) = none := by
          cases q1 : valV kvs (Sum.inl n.num : Key) with
          | none => rfl
          | some v =>
            have h2 := valV_in q1
            rw [paired_keys hkv] at h2
            obtain ⟨x, hx, ex⟩ := List.mem_map.mp h2
            rw [Sum.inl.inj ex] at hx
            exact absurd hx nn2
        have kvl : kvs.length ≤ 8 := by
          rw [paired_len hkv]
          have e := pm.length_eq
          rw [List.length_append] at e
          omega
        have hnA' : NdAt H3 (.ref ra) n := by
          rw [← era]
          exact hnA
        rw [era]
        -- nodes[row[0]] = row
        refine ⟨_, rfl, _, rfl, _, rfl, ra, _, 0, _, rfl, rfl, SqT.of (tR _ _ hra), atI_nat (j := 0) rfl, Dn, _, rfl, DPut.k (k := Sum.inl n.num) hDn4 (small1000 (by omega)), ?_⟩
        rw [putK_new _ vn]
        have tD := tups_upd_dK (o := .dK (kvs ++ [(Sum.inl n.num, V.ref ra)])) hDn4
        refine ⟨_, ns1.eraseIdx c.toNat, _, ns2 ++ [n], _, _, rfl, (C4.own nDf tD).more (by omega), upd_same, paired_append (paired_imp (fun _ _ z => ⟨z.1, z.2.mono tD⟩) hkv4) (.cons ⟨rfl, (hnA'.mono tR).mono tD⟩ .nil), ?_, ?_⟩
        · refine List.Perm.trans ?_ pm
          rw [← List.append_assoc]
          refine List.perm_append_comm.trans ?_
          show ([n] ++ (ns1.eraseIdx c.toNat ++ ns2)).Perm (ns1 ++ ns2)
          rw [← List.append_assoc]
          exact List.Perm.append_right _ pe
        · have e := pe.length_eq
          rw [List.length_cons] at e
          omega
      · obtain ⟨rv, ns1, kvs, ns2, o5, o9, rfl, C2, hDn, hkv, pm, cnt⟩ := pr
        have e1 : ns1 = [] := List.eq_nil_of_length_eq_zero (by omega)
        subst e1
        rw [List.nil_append] at pm
        refine ⟨_, rfl, q H2 Dn kvs ns2 C2.keep (C2.well.more (by omega)) nDf.2.2.2.2 hDn ⟨hkv, (pm.map Nd.num).nodup_iff.mpr ndup, by rw [pm.length_eq]; omega⟩ ⟨fun n hn => M.cr.snap n (pm.mem_iff.mp hn), fun n hn n' hn' => M.cr.apart n (pm.mem_iff.mp hn) n' (pm.mem_iff.mp hn')⟩ fun n hn => M.ok n (pm.mem_iff.mp hn)⟩
end
end K46

set_option Elab.async false
set_option linter.all false
set_option maxRecDepth 100000
set_option maxHeartbeats 8000000
/-! K46S: set(texts), and sorted of it: only that the members are among the texts, and not more. -/
namespace K46
open PySem PySem.Spec PyProof.Rows L2
/-- a set that was just made -/
abbrev noSet (w : World) : Obj := { cls := .type "set", dict := none, data := .set #[] 0 (.fresh 0 0 (!w.params.followText "set-order")) }
/-- a member: a text of M, with its hash -/
def GoodS (w : World) (M : List Str) (e : Int × Value) : Prop := ∃ k tk, e = (hashStr w k, Value.str k tk) ∧ k ∈ M
/-- what a set of at most n texts holds, all of M -/
structure Body (w : World) (M : List Str) (n : Nat) (es : Array (Int × Value)) (t : SetTable) : Prop where
  good : ∀ e, e ∈ es.toList → GoodS w M e
  most : es.size ≤ n
  few : n < scanBound
  fits : t.fits es.size = true
  ris : Ris t.place.toList
  led : w.params.followText "set-order" = true ∨ t.led = true
/-- the set at a -/
def SetS (w : World) (h : Heap) (a : Addr) (M : List Str) (n : Nat) : Prop := ∃ o es ep t, h.get? a = some o ∧ o.ExactSet ∧ o.data = .set es ep t ∧ Body w M n es t
section
variable {P : Program} {w : World} {h h' : Heap} {a : Addr} {M : List Str} {n : Nat} {es : Array (Int × Value)} {t : SetTable}
theorem SetS.at (R : SetS w h a M n) (k : ∀ o, h.get? a = some o → h'.get? a = some o) : SetS w h' a M n :=
  let ⟨o, es, ep, t, ho, r⟩ := R
  ⟨o, es, ep, t, k o ho, r⟩
theorem Body.few' (B : Body w M n es t) : es.size < scanBound := Nat.lt_of_le_of_lt B.most B.few
theorem Body.elems (B : Body w M n es t) : ElemsOf (strKind P w) es.toList := by
  intro e he
  obtain ⟨k, tk, rfl, _⟩ := B.good e he
  exact ⟨⟨k, PySem.Froz.is_str k tk, rfl⟩, rfl⟩
theorem Body.perm {es' : Array (Int × Value)} {t' : SetTable} (B : Body w M n es t) (p : es'.toList.Perm es.toList) (f : t'.fits es'.size = true) (r : Ris t'.place.toList) (l : t'.led = t.led) : Body w M n es' t' where
  good e he := B.good e (p.mem_iff.mp he)
  most := by
    have q := p.length_eq
    rw [Array.length_toList, Array.length_toList] at q
    exact q ▸ B.most
  few := B.few
  fits := f
  ris := r
  led := by
    rw [l]
    exact B.led
theorem Body.relay (B : Body w M n es t) (k : Nat) : Body w M n (relayAll t es k).1 (relayAll t es k).2.1 := B.perm (relayAll_perm t es k) (relayAll_fits t es k) (relayAll_ris t es k) (relayAll_led t es k)
theorem Body.unplain (B : Body w M n es t) : Body w M n es { t with plain := false } := ⟨B.good, B.most, B.few, SetTable.fits_plain_off B.fits, B.ris, B.led⟩
theorem Body.more (B : Body w M n es t) (room : n + 1 < scanBound) : Body w M (n + 1) es t := ⟨B.good, Nat.le_succ_of_le B.most, room, B.fits, B.ris, B.led⟩
theorem Body.lay (B : Body w M n es t) {k : Str} (tk : Tok) (hk : k ∈ M) (room : n + 1 < scanBound) : Body w M (n + 1) (layNew t es (hashStr w k) (.str k tk)).1 (layNew t es (hashStr w k) (.str k tk)).2.1 := by
  have p := layNew_perm t es (hashStr w k) (.str k tk)
  rw [Array.toList_push] at p
  refine ⟨fun e he => ?_, ?_, room, layNew_fits t es _ _, layNew_ris t es _ _ B.ris, ?_⟩
  · rcases List.mem_append.mp (p.mem_iff.mp he) with z | z
    · exact B.good e z
    · exact ⟨k, tk, List.mem_singleton.mp z, hk⟩
  · have q := p.length_eq
    rw [List.length_append, List.length_singleton, Array.length_toList, Array.length_toList] at q
    have := B.most
    omega
  · rw [layNew_led]
    exact B.led
theorem noSet_ok {h : Heap} {a : Addr} (M : List Str) (ho : h.get? a = some (noSet w)) : SetS w h a M 0 := by
  refine ⟨_, #[], 0, _, ho, ⟨rfl, rfl, rfl⟩, rfl, fun e he => by simp at he, Nat.le_refl _, by decide, rfl, List.Pairwise.nil, ?_⟩
  show _ ∨ (!w.params.followText "set-order") = true
  cases w.params.followText "set-order" with
  | true => exact .inl rfl
  | false => exact .inr rfl
end
section
variable {P : Program} {w : World} {A : Around} {E : Value → Shared → Prop} {s : Shared} {a : Addr} {M : List Str} {n : Nat}
/-- what is laid is written, and laid anew where the table is too full -/
theorem lay_tail {g : Bool → Sem Unit} (hg : ∀ (b : Bool) (s₁ : Shared) (Q' : Unit → Shared → Prop), Q' () s₁ → wpAny (model P w) A (g b) Q' E s₁) {o : Obj} {es es1 : Array (Int × Value)} {ep : Nat} {t t2 : SetTable} {wd : Bool}
    (ho : s.heap.get? a = some o) (hex : o.ExactSet) (hd : o.data = .set es ep t) (B : Body w M n es1 t2) {R : Option Bool → Shared → Prop} (hR : ∀ h', Heap.SameBut a s.heap h' → SetS w h' a M n → R (some true) { s with heap := h' }) :
    wpAny (model P w) A (storeSet a es1 t2 >>= fun _ => if (!wd && t2.tooFull) = true then (g (relayAll t2 es1 (SetTable.grown es1.size)).2.2 >>= fun _ =>
      storeSet a (relayAll t2 es1 (SetTable.grown es1.size)).1 (relayAll t2 es1 (SetTable.grown es1.size)).2.1 >>= fun _ => pure (some true)) else pure (some true)) R E s := by
  have B3 := B.relay (SetTable.grown es1.size)
  have h1 := store_at (es' := es1) (t' := t2) ho hd
  have c1 := Heap.SameBut.update s.heap a (Obj.putSet es1 t2)
  refine wpAny_bind (wpAny_storeSet_of ho hd ?_ (fits_of_scanBound B.few'))
  split
  · refine wpAny_bind (hg _ _ _ (wpAny_bind (wpAny_storeSet_of h1 rfl (wpAny_pure (hR _ (c1.trans (Heap.SameBut.update _ a _)) ?_)) (fits_of_scanBound B3.few'))))
    exact ⟨_, _, _, _, store_at h1 rfl, hex, rfl, B3⟩
  · exact wpAny_pure (hR _ c1 ⟨_, es1, _, t2, h1, hex, rfl, B⟩)
/-- s.add(k): k was there, or is laid -/
theorem setS_add {k : Str} {tk : Tok} {Q : Bool → Shared → Prop} (R : SetS w s.heap a M n) (hk : k ∈ M) (room : n + 1 < scanBound)
    (hQ : ∀ b h', Heap.SameBut a s.heap h' → SetS w h' a M (n + 1) → Q b { s with heap := h' }) : wpAny (model P w) A (setAddHashed a (.str k tk) (hashStr w k)) Q E s := by
  obtain ⟨o, es, ep, t, ho, hex, hd, B⟩ := R
  have BL := B.lay tk hk room
  unfold setAddHashed setAddHashedIn
  refine wpAny_holding (wpAny_bind (wpAny_setState_of ho hd B.fits ?_))
  dsimp only
  rw [byScan_of (x := .str k tk) rfl B.few' (B.elems (P := P))]
  simp only [↓reduceIte]
  unfold setAddByScan
  refine wpAny_bind (wpAny_bind (wpAny_rule (wpAny_bind (wpAny_setScan_of (knd := strKind P w) (k := k) (PySem.Froz.is_str k tk) ho hd B.fits B.elems ?_))))
  cases hfi : List.findIdx? (fun e => (strKind P w).is k e.2) es.toList with
  | some j => exact wpAny_pure (wpAny_pure (hQ _ _ (Heap.SameBut.refl a s.heap) ⟨o, es, ep, t, ho, hex, hd, B.more room⟩))
  | none =>
    dsimp only
    generalize layNew t es (hashStr w k) (.str k tk) = Z at BL ⊢
    obtain ⟨es1, t1, wasDummy, gave⟩ := Z
    dsimp only at BL ⊢
    refine wpAny_bind ?_
    have way : ∀ (b : Bool) (s₁ : Shared) (Q' : Unit → Shared → Prop), Q' () s₁ → wpAny (model P w) A (match b with | true => rule "set.scan.the-table-gave-way" | false => pure ()) Q' E s₁ := fun b s₁ Q' q => by
      cases b with
      | true => exact wpAny_rule q
      | false => exact wpAny_pure q
    refine way _ _ _ ?_
    split
    · refine wpAny_bind ?_
      rw [hashByValue_scannable 8 (x := Value.str k tk) rfl]
      refine wpAny_pure (lay_tail way ho hex hd ?_ fun h' c r => wpAny_pure (hQ _ h' c r))
      split
      · exact BL
      · exact BL.unplain
    · refine wpAny_bind (wpAny_pure ?_)
      simp only [↓reduceIte]
      exact lay_tail way ho hex hd BL fun h' c r => wpAny_pure (hQ _ h' c r)
/-- the loop of set(texts) -/
theorem update_texts {S I : Addr} {fp wr : List Addr} {G : Array GenState → Array GenState → Prop} {Pv : Nat → Value → Prop} {St : Nat → Shared → Prop} {R : Result → Shared → Prop} {ns : List Str} (W : WalksS P w A.in1 I fp wr G ns.length Pv St) (hS : S ∉ fp) (few : ns.length + 1 < scanBound)
    (val : ∀ i v, Pv i v → ∃ k t, ns[i]? = some k ∧ v = .str k t) : ∀ (k i : Nat) (s : Shared), i + k = ns.length → St i s → SetS w s.heap S ns i →
      (∀ s', Moved (S :: wr) G s s' → SetS w s'.heap S ns ns.length → R (.ok (.ret .none)) s') → codeAny (model P w) A (.builtin "set.update.loop" ⟨[.ref S, .ref I], []⟩) R s
  | 0, i, s, hi, st, r, q => by
    have e : i = ns.length := hi
    subst e
    refine codeAny_builtin F.entry_set_update_loop ?_
    rw [Around.under_plainId F.plain_set_update_loop _]
    refine wpAny_bind (m := pyNext (.ref I)) (W.done s _ _ st fun s' m => ?_)
    exact wpAny_pure (q s' (m.mono fun b hb => List.mem_cons_of_mem _ hb) (r.at fun o e => m.heap S o (fun z => hS (W.sub _ z)) e))
  | k + 1, i, s, hi, st, r, q => by
    refine codeAny_builtin F.entry_set_update_loop ?_
    rw [Around.under_plainId F.plain_set_update_loop _]
    refine wpAny_bind (m := pyNext (.ref I)) (W.item i s _ _ (by omega) st fun v s' hP st' m => ?_)
    obtain ⟨z, t, hz, rfl⟩ := val i v hP
    have r' : SetS w s'.heap S ns i := r.at fun o e => m.heap S o (fun z => hS (W.sub _ z)) e
    refine wpAny_bind (m := holding [Value.str z t] (setAdd S (.str z t))) (wpAny_holding ?_)
    unfold setAdd
    refine wpAny_holding (wpAny_bind ((strKind P w).pyHash (k := z) (PySem.Froz.is_str _ _) ?_))
    refine setS_add (s := { s' with toks := s'.toks + 1 }) r' (List.mem_of_getElem? hz) (by omega) fun b h' c r2 => ?_
    have other : ∀ b, b ≠ S → ∀ o, s'.heap.get? b = some o → h'.get? b = some o := fun b n o e => by
      rw [c.2 b n]
      exact e
    refine wpAny_pure ⟨plainId_quiet F.plain_set_update_loop _, update_texts W hS few val k (i + 1) _ (by omega) (W.frame _ s' _ _ st' (Nat.le_succ _) fun b hb o e => other b (fun z => hS (z ▸ hb)) o e) r2 fun s'' m2 r3 => ?_⟩
    exact q s'' (Moved.trans W.gtrans ((m.mono fun b hb => List.mem_cons_of_mem _ hb).then_heap (Nat.le_succ _) fun b o hb e => other b (fun z => hb (by rw [z]; exact List.mem_cons_self)) o e) m2) r3
/-- set(xs), xs a list of texts -/
theorem call_set_texts {l : Addr} {items : Array Value} {ns : List Str} {Q : Value → Shared → Prop} (hh : A.handled = none) (hl : s.heap.IsList l items) (hi : StrsAre items.toList ns) (few : ns.length + 1 < scanBound)
    (q : ∀ (h' : Heap) (tk : Nat), SetS w h' s.heap.objs.size ns ns.length → (∀ b o, s.heap.get? b = some o → h'.get? b = some o) → Q (.ref s.heap.objs.size) { s with heap := h', toks := tk }) :
    wpAny (model P w) A (call (.type "set") [.ref l]) Q E s := by
  have hn : items.size = ns.length := by
    rw [← Array.length_toList]
    exact hi.length
  have hb : (s.heap.push (noSet w)).get? s.heap.objs.size = some (noSet w) := Heap.get?_push_size _ rfl
  have hz1 : (s.heap.push (noSet w)).objs.size = s.heap.objs.size + 1 := Heap.size_push ..
  obtain ⟨c, tl, hmro⟩ := F.called_set.mro
  have f1 := F.called_set.made
  have f2 := F.called_set.sub
  have f3 := F.called_set.notType
  have f4 := F.called_set.canCreate
  have f5 := F.typeCall_set_1 (.ref l)
  have f6 := F.called_set.init.lookup
  have f7 := F.called_set.init.bind (.ref s.heap.objs.size)
  refine wpAny_call (codeAny_of_tree ?_)
  show wpAny _ _ (callAny (.type "set") _) _ _ _
  refine wpAny_pure ⟨Code.quiet_builtin _ (by decide +kernel), codeAny_builtin F.entry_type_call ?_⟩
  rw [Around.under_plain (weight_type_call_type "set" [.ref l] []) rfl]
  repeat (any_goals (first | assumption | wp_step))
  refine codeAny_mono (code_set_led1 (.ref l) (E := E) (Q₁ := fun v s₁ => v = .ref s.heap.objs.size ∧ s₁ = { s with heap := s.heap.push (noSet w) }) ⟨rfl, rfl⟩) fun r s₁ hr => ?_
  rcases r with e | fl
  · exact hr
  cases fl with
  | next => exact hr.elim
  | brk => exact hr.elim
  | cont => exact hr.elim
  | ret v =>
    obtain ⟨rfl, rfl⟩ := hr
    have ty : Shared.TypeIs { s with heap := s.heap.push (noSet w) } (.ref s.heap.objs.size) "set" := ⟨_, hb, rfl⟩
    repeat (any_goals (first | assumption | wp_step))
    refine codeAny_mono (codeAny_call_builtin (R := wants (fun r s₂ => r = .none ∧ ∃ h' tk, s₂ = { s with heap := h', toks := tk } ∧ SetS w h' s.heap.objs.size ns ns.length ∧ ∀ b o, s.heap.get? b = some o → h'.get? b = some o) E)
      F.called_set.init.plain F.entry_set_init (check_set_init_1 ty ?_)) fun r₂ s₂ hr₂ => ?_
    · obtain ⟨⟨cls, dct, dat, slots⟩, hol, hcl, nl, hdl⟩ := hl
      simp only at hcl hdl
      subst hcl hdl
      have hol' := Heap.get?_push_of_some (noSet w) hol
      have hl1 : (s.heap.push (noSet w)).IsList l items := ⟨_, hol', rfl, nl, rfl⟩
      have t1 := F.sub_list_set
      have t2 := F.sub_list_frozenset
      have t3 : (Value.type "list" == Value.type "dict") = false := by decide
      have hlt : l < s.heap.objs.size := Heap.lt_size hol
      unfold Builtin.«set.__init__» noKeywords Builtin.Frozenset.updateFrom
      generalize hPI : pyIter = PI
      wp_walk
      subst hPI
      refine wpAny_pyIter_list hl1 (wpAny_bind (wpAny_runValue ?_))
      have lne : l ≠ (s.heap.push (noSet w)).objs.size := by
        rw [hz1]
        exact Nat.ne_of_lt (Nat.lt_succ_of_lt hlt)
      have W := (Walks.list (prog := P) (w := w) (A := A.in1.in1.in1) (by simp [hh]) (s.heap.push (noSet w)).objs.size l lne items).toS
      rw [hn] at W
      refine update_texts (ns := ns) W (fun z => ?_) few (fun i v hv => ?_) ns.length 0 _ (Nat.zero_add _) ⟨⟨_, Heap.get?_push_size _ rfl, rfl, rfl⟩, hl1.push _⟩ (noSet_ok ns (Heap.get?_push_of_some _ hb)) fun s' m r => ?_
      · rw [hz1] at z
        rcases List.mem_cons.mp z with z | z
        · exact absurd z (Nat.ne_of_lt (Nat.lt_succ_self _))
        · exact absurd (List.mem_singleton.mp z) (Nat.ne_of_gt hlt)
      · obtain ⟨k, tk, e1, e2⟩ := StrsAre.item hi i v (by rw [Array.getElem?_toList]; exact hv)
        exact ⟨k, tk, e2, e1⟩
      · obtain ⟨h', g2, d2, tk', os2⟩ := s'
        have eg : g2 = s.gens := m.gens
        have ed : d2 = s.drawn := m.drawn
        have eo : os2 = s.os := m.os
        subst eg ed eo
        refine wpAny_pure (wpAny_pure ⟨rfl, h', tk', rfl, r, fun b o e => ?_⟩)
        have hbl : b < s.heap.objs.size := Heap.lt_size e
        refine m.heap b o (fun z => ?_) (Heap.get?_push_of_some _ (Heap.get?_push_of_some _ e))
        rcases List.mem_cons.mp z with z | z
        · exact absurd z (Nat.ne_of_lt hbl)
        · exact absurd ((List.mem_singleton.mp z).trans hz1) (Nat.ne_of_lt (Nat.lt_succ_of_lt hbl))
    · rcases r₂ with e | fl₂
      · exact hr₂
      cases fl₂ with
      | next => exact hr₂.elim
      | brk => exact hr₂.elim
      | cont => exact hr₂.elim
      | ret v =>
        obtain ⟨rfl, h', tk, rfl, r, kp⟩ := hr₂
        repeat (any_goals (first | assumption | wp_step))
        exact q _ _ r kp
theorem texts_of {M : List Str} : ∀ vs : List Value, (∀ v, v ∈ vs → ∃ k tk, v = Value.str k tk ∧ k ∈ M) → ∃ ks : List Str, StrsAre vs ks ∧ ∀ k, k ∈ ks → k ∈ M
  | [], _ => ⟨[], .nil, fun k hk => by cases hk⟩
  | v :: vs, h => by
    obtain ⟨k, tk, rfl, hk⟩ := h v List.mem_cons_self
    obtain ⟨ks, h1, h2⟩ := texts_of vs fun u hu => h u (List.mem_cons_of_mem _ hu)
    refine ⟨k :: ks, .cons k tk h1, fun j hj => ?_⟩
    rcases List.mem_cons.mp hj with z | z
    · exact z ▸ hk
    · exact h2 j z
/-- sorted(set) -/
theorem sorted_texts {Q : Value → Shared → Prop} (R : SetS w s.heap a M n) (hh : A.handled = none) (h64 : n < 64)
    (q : ∀ s' p (out : Array Value) (c : Nat) (ys : List Str), (∀ b o, s.heap.get? b = some o → s'.heap.get? b = some o) → s'.gens = s.gens → s'.os = s.os → s.heap.objs.size ≤ p → s'.heap.get? p = some (seqObj "list" out c) → StrsAre out.toList ys →
      (∀ k, k ∈ ys → k ∈ M) → ys.length ≤ n → Q (.ref p) s') : wpAny (model P w) A (call (.builtin "sorted") [.ref a]) Q E s := by
  obtain ⟨o, es, ep, t, ho, hex, hd, B⟩ := R
  refine Calls.call_function_entry kind_sorted plain_sorted entry_sorted (args_sorted1 _) ?_
  unfold Builtin.«sorted»
  refine wpAny_bind (m := checkCount "sorted" 1 1 _) (wpAny_pure (wpAny_bind (collect_set (A := A.in1) hh ⟨o, ho, hex.1, hd⟩ B.fits B.few' B.ris B.led fun s1 vs kp hz g1 o1 pm => ?_)))
  have few : vs.length ≤ n := by
    rw [pm.length_eq, List.length_map, Array.length_toList]
    exact B.most
  obtain ⟨ks, hK, hM⟩ := texts_of (M := M) vs fun v hv => by
    obtain ⟨e, he, rfl⟩ := List.mem_map.mp (pm.mem_iff.mp hv)
    obtain ⟨k, tk, rfl, hk⟩ := B.good e he
    exact ⟨k, tk, rfl, hk⟩
  have there : (s1.heap.push (seqObj "list" vs.toArray 0)).get? s1.heap.objs.size = some (seqObj "list" vs.toArray 0) := Heap.get?_push_size _ rfl
  refine wpAny_bind (wpAny_newList (wpAny_bind (wpAny_holding (wpAny_call_entry slot_list_sort ⟨_, there, rfl⟩ entry_list_sort (list_sort_treeK strKind_oneLt there hK.keysOf (fun v₁ v₂ rest e => keyKind_strs (e ▸ hK)) (by omega) fun st' hp hs => ?_) (args_list_sort _)))) (by rw [sizeLine_eq]; omega))
  obtain ⟨ys, a1, a2, _⟩ := sorted_out_str hK hp hs
  obtain ⟨c, hc⟩ := sortedHeap_at (vs := vs) (out := (arrOf st').map (·.2)) there
  refine ⟨_, rfl, wpAny_pure ⟨_, rfl, q _ s1.heap.objs.size _ c ys (fun b u e => ?_) g1 o1 hz hc a1 (fun k hk => hM k (a2.mem_iff.mp hk)) ?_⟩⟩
  · have e1 := kp b u e
    have lt := Heap.lt_size e1
    refine (sortedHeap_old (Nat.ne_of_lt lt) ?_).trans (Heap.get?_push_of_some _ e1)
    rw [size_push']
    exact Nat.lt_succ_of_lt lt
  · rw [a2.length_eq, ← hK.length]
    exact few
end
/-! ### the rules -/
def SetSO (w : World) (a : Addr) (M : List Str) (n : Nat) : HO := .ext fun h => SetS w h a M n
theorem SetS.ok {P : Program} {w : World} {H : Hp} {h : Heap} {a : Addr} {M : List Str} {n : Nat} (R : SetS w h a M n) : ObjOk P w H h a (SetSO w a M n) :=
  ⟨R, let ⟨o, _, _, _, ho, _⟩ := R; ⟨o, ho⟩, fun _ _ p k => p.at k⟩
section
variable {X : Cx}
/-- set(xs), xs a list of texts -/
def rSetOfS (K : PySem.W.Frag) (w : World) : List V → Hp → VK → Prop := fun xs H Q => ∃ (l : Addr) (ks : List Str), xs = [V.ref l] ∧ SqL K H l (ks.map V.str) ∧ ks.length < 64 ∧
  ∀ a, H a = none → Q (.ref a) (L2.upd H a (SetSO w a ks ks.length))
theorem cr_setOfS (hc : X.calm = true) : CallR X (.type "set") (rSetOfS X.K X.w) := by
  rintro pins s σ H xs us Q I r ⟨l, ks, rfl, hl, hf, q⟩
  obtain ⟨its, rv, pl, _⟩ := I.list hl
  rw [Vals.ref1 r]
  refine call_set_texts (ns := ks) (I.ok.hd hc) pl.isList (by simpa using rv.strs) (by unfold scanBound; omega) fun h' tk R k => ?_
  exact ⟨.ref s.heap.objs.size, _, I.laid (t' := tk) k (Nat.le_refl _) R.ok, rfl, q _ (I.hok.fresh (Nat.le_refl _))⟩
/-- sorted(set) -/
def rSortedSS (w : World) : List V → Hp → VK → Prop := fun vs H Q => ∃ (a : Addr) (M : List Str) (n : Nat), vs = [V.ref a] ∧ H a = some (SetSO w a M n) ∧ n < 64 ∧
  ∀ (ys : List Str) (p : Addr), (∀ k, k ∈ ys → k ∈ M) → ys.length ≤ n → H p = none → Q (.ref p) (L2.upd H p (.lst (ys.map V.str)))
theorem cr_sortedSS (hc : X.calm = true) : CallR X (.builtin "sorted") (rSortedSS X.w) := by
  rintro pins s σ H vs us Q I r ⟨a, M, n, rfl, ha, h64, q⟩
  have R : SetS X.w s.heap a M n := (I.hok a _ ha).1
  rw [Vals.ref1 r]
  refine sorted_texts R (I.ok.hd hc) h64 fun s' p out c ys k g o hp hg hi hs hl => ?_
  obtain ⟨hh, gg, dd, tt, oo⟩ := s'
  have eo : oo = s.os := o
  have eg : gg = s.gens := g
  subst eo
  have hn : H p = none := I.hok.fresh hp
  refine ⟨.ref p, L2.upd H p (.lst (ys.map V.str)), I.call (ch := []) (Un.laid k hp hn) (I.hok.laid k hp ⟨?_, out.toList, c, vals_of_strs hi, hg⟩) (by rw [eg]; exact I.bare) (fun _ z => by cases z), rfl, q ys p hs hl hn⟩
  rw [List.length_map, sizeLine_eq]
  omega
end
end K46

set_option Elab.async false
set_option linter.all false
set_option maxRecDepth 100000
set_option maxHeartbeats 8000000
/-! K46U: _law_free_nodes. -/
namespace K46
open PySem PySem.Spec PyProof.Rows L2
theorem paired_keys2 {H : Hp} {kvs : List (Key × V)} {ns : List Nd} (h : Paired (KvOk H) kvs ns) {i : Int} (n : i ∉ ns.map Nd.num) : valV kvs (Sum.inl i : Key) = none := by
  cases q1 : valV kvs (Sum.inl i : Key) with
  | none => rfl
  | some v =>
    have h2 := valV_in q1
    rw [paired_keys h] at h2
    obtain ⟨x, hx, ex⟩ := List.mem_map.mp h2
    rw [Sum.inl.inj ex] at hx
    exact absurd hx n
theorem same_upd2 {H : Hp} {p : Addr} {o o' : HO} (h : H p = none) : Same H (upd (upd H p o) p o') := fun b x e => by
  have n := ne_of_none e h
  rw [upd_ne n, upd_ne n]
  exact e
/-- the state of the loop that makes the nodes -/
structure FS (H0 H : Hp) (a pl D Lf : Addr) (ks : List Str) (kvs : List (Key × V)) (ns : List Nd) (xs : List Int) (b : Nat) : Prop where
  keep : KeepW a H0 H
  well : WellAt H a b
  pool : H pl = some (.lst (ks.map V.str))
  left : H Lf = some (.lst (xs.map V.int))
  dict : H D = some (.dK kvs)
  np : Paired (KvOk H) kvs ns
structure FN (H0 : Hp) (a pl D Lf : Addr) : Prop where
  npl : pl ≠ a
  nD : D ≠ a
  nL : Lf ≠ a
  fD : H0 D = none
  fL : H0 Lf = none
  DL : D ≠ Lf
  Dp : D ≠ pl
  Lp : Lf ≠ pl
section
variable {H0 H H' : Hp} {a pl D Lf : Addr} {ks : List Str} {kvs : List (Key × V)} {ns : List Nd} {xs : List Int} {b b' : Nat}
theorem FS.same (c : FS H0 H a pl D Lf ks kvs ns xs b) (s : Same H H') : FS H0 H' a pl D Lf ks kvs ns xs b :=
  ⟨c.keep.trans (KeepW.of_same s), c.well.same s, s _ _ c.pool, s _ _ c.left, s _ _ c.dict, paired_imp (fun _ _ z => ⟨z.1, z.2.mono (Same.tups s)⟩) c.np⟩
theorem FS.drawn (c : FS H0 H a pl D Lf ks kvs ns xs b) (N : FN H0 a pl D Lf) (k : KeepW a H H') (w : WellAt H' a b') : FS H0 H' a pl D Lf ks kvs ns xs b' :=
  ⟨c.keep.trans k, w, k _ _ c.pool N.npl, k _ _ c.left N.nL, k _ _ c.dict N.nD, paired_imp (fun _ _ z => ⟨z.1, z.2.mono (k.tups c.well)⟩) c.np⟩
theorem FS.more (c : FS H0 H a pl D Lf ks kvs ns xs b) (l : b ≤ b') : FS H0 H a pl D Lf ks kvs ns xs b' := ⟨c.keep, c.well.more l, c.pool, c.left, c.dict, c.np⟩
theorem FS.ne (c : FS H0 H a pl D Lf ks kvs ns xs b) {z : Addr} (n : H z = none) : z ≠ a ∧ z ≠ pl ∧ z ≠ D ∧ z ≠ Lf ∧ H0 z = none :=
  ⟨(c.well.ne n).symm, (ne_of_none c.pool n).symm, (ne_of_none c.dict n).symm, (ne_of_none c.left n).symm, by
    cases q : H0 z with
    | none => rfl
    | some o =>
      have := c.keep z o q (c.well.ne n).symm
      rw [n] at this
      cases this⟩
/-- a list of one's own is written -/
theorem FS.own {z : Addr} {o : HO} (c : FS H0 H a pl D Lf ks kvs ns xs b) (n : z ≠ a ∧ z ≠ pl ∧ z ≠ D ∧ z ≠ Lf ∧ H0 z = none) (t : Tups H (L2.upd H z o)) : FS H0 (L2.upd H z o) a pl D Lf ks kvs ns xs b :=
  ⟨c.keep.upd0 n.2.2.2.2, c.well.upd n.1, by rw [upd_ne n.2.1.symm]; exact c.pool, by rw [upd_ne n.2.2.2.1.symm]; exact c.left, by rw [upd_ne n.2.2.1.symm]; exact c.dict, paired_imp (fun _ _ z => ⟨z.1, z.2.mono t⟩) c.np⟩
/-- the rest is written -/
theorem FS.pop {xs' : List Int} (c : FS H0 H a pl D Lf ks kvs ns xs b) (N : FN H0 a pl D Lf) : FS H0 (L2.upd H Lf (.lst (xs'.map V.int))) a pl D Lf ks kvs ns xs' b :=
  ⟨c.keep.upd0 N.fL, c.well.upd N.nL, by rw [upd_ne N.Lp.symm]; exact c.pool, upd_same, by rw [upd_ne N.DL]; exact c.dict, paired_imp (fun _ _ z => ⟨z.1, z.2.mono (tups_upd_lst c.left)⟩) c.np⟩
/-- the dictionary is written -/
theorem FS.put {n : Nd} {v : V} (c : FS H0 H a pl D Lf ks kvs ns xs b) (N : FN H0 a pl D Lf) (hn : NdAt H v n) : FS H0 (L2.upd H D (.dK (kvs ++ [(Sum.inl n.num, v)]))) a pl D Lf ks (kvs ++ [(Sum.inl n.num, v)]) (ns ++ [n]) xs b :=
  ⟨c.keep.upd0 N.fD, c.well.upd N.nD, by rw [upd_ne N.Dp.symm]; exact c.pool, by rw [upd_ne N.DL.symm]; exact c.left, upd_same,
    paired_append (paired_imp (fun _ _ z => ⟨z.1, z.2.mono (tups_upd_dK c.dict)⟩) c.np) (.cons ⟨rfl, hn.mono (tups_upd_dK c.dict)⟩ .nil)⟩
end
section
variable {P : Program} {w : World} {K : PySem.W.Frag} {mg : Str → Option Value} {base : Heap}
def spFree : Sp := fun vs H Q _ => ∃ a b pl ks m, vs = [.ref a, .ref pl, .int m] ∧ WellAt H a b ∧ b ≤ 600000 ∧ H pl = some (.lst (ks.map V.str)) ∧ pl ≠ a ∧ ks ≠ [] ∧ ks.length ≤ 8 ∧ (∀ k, k ∈ ks → sl k ≤ 20) ∧ 1 ≤ m ∧ m ≤ 8 ∧
  ∀ (H' : Hp) (p : Addr) (kvs : List (Key × V)) (ns : List Nd), KeepW a H H' → WellAt H' a (b + 1000) → H p = none → H' p = some (.dK kvs) → NdsAt H' kvs ns → (∀ n, n ∈ ns → NdOk n) → Q (.ref p) H'
abbrev nFr : List Str := ["_law_well_here", "_law_pool_here", "_law_many", "_law_nodes", "_law_left", "_law_k", "_law_number", "_law_snapshot", "_law_notes", "_law_keys", "_law_j"]
theorem scFr : FnScope nFr ["_law_well_here", "_law_pool_here", "_law_many"] (defScope sFree) := ⟨rfl, rfl, rfl, by decide +kernel, rfl, by decide +kernel, by decide +kernel⟩
structure TxFr (mg : Str → Option Value) : Prop where
  max : mg "max" = none
  set : mg "set" = none
  tuple : mg "tuple" = none
  sorted : mg "sorted" = none
  len : mg "len" = none
  range : mg "range" = none
def rLenQ (K : PySem.W.Frag) : List V → Hp → VK → Prop := fun xs H Q => ∃ p ys, xs = [.ref p] ∧ (SqL K H p ys ∨ SqT K H p ys) ∧ Q (.int ys.length) H
theorem ok_free {f fD fN fM : Addr} {fd fdD fdN fdM : FuncData} (F : FnP K "_law_free_nodes" sFree f fd) (GD : FnOk P w K mg base CX0 1 fD fdD ["_law_well_here", "_law_many"] spDip) (kD : PySem.W.keepIn K (.ref fD) = true) (bD : Binds K fdD ["_law_well_here", "_law_many"] []) (gD : mg "_law_dip" = some (.ref fD))
    (GN : FnOk P w K mg base CX0 3 fN fdN ["_law_well_here", "_law_pool_here", "_law_rows"] spNote) (kN : PySem.W.keepIn K (.ref fN) = true) (bN : Binds K fdN ["_law_well_here", "_law_pool_here", "_law_rows"] []) (gN : mg "_law_note" = some (.ref fN))
    (GM : FnOk P w K mg base CX0 2 fM fdM ["_law_well_here", "_law_many"] spNumbers) (kM : PySem.W.keepIn K (.ref fM) = true) (bM : Binds K fdM ["_law_well_here", "_law_many"] []) (gM : mg "_law_numbers" = some (.ref fM)) (T : TxFr mg) :
    FnOk P w K mg base CX0 4 f fd ["_law_well_here", "_law_pool_here", "_law_many"] spFree := by
  refine okN F scFr (fun vs H Q E h => ?_) (fun cdv A outer s H vs Q E hr h => ?_)
  · obtain ⟨a, b, pl, ks, m, rfl, _⟩ := h
    rfl
  · obtain ⟨a, b, pl, ks, m, rfl, hw, hb, hpl, npl, kn, kl, kb, m0, m1, q⟩ := h
    have hr1 : Room 1 _ := hr.mono (by decide)
    have hr2 : Room 2 _ := hr.mono (by decide)
    have hu := hu_of hr
    refine ⟨_, pss_cons (ps_par (i := 3) (j := 4) rfl scFr.nd rfl rfl (by decide) rfl rfl (pa_cons pe_dnewK (pa_cons (pe_call GM hr2 (by rfl) gM kM bM .nil pass0 (pa_cons (pv 0) (pa_cons (pv 2) pa_nil))) pa_nil)) (by rfl))
      (pss_cons (ps_for PassesOwn.never rfl (pi_range1 (by rfl) T.range (pa_cons (pv 2) pa_nil)) (pg_name (i := 5) scFr.nd rfl (.inl rfl))
        (pss_cons (ps_set (i := 6) scFr.nd rfl (.inl rfl) (pe_bm PySem.F.plainAttrs_list PySem.F.slot_list_pop PySem.F.type_list_pop mt_popAt (pv 4)
          (pa_cons (pe_ix ix_list (pe_lst (pa_cons pe_int (pa_cons (pe_call GD hr1 (by rfl) gD kD bD .nil pass0 (pa_cons (pv 0) (pa_cons (pe_callB call_len_seq (by rfl) T.len PySem.boot_len (pa_cons (pv 4) pa_nil)) pa_nil))) pa_nil)))
            (pe_call GD hr1 (by rfl) gD kD bD .nil pass0 (pa_cons (pv 0) (pa_cons pe_int pa_nil))) (fun _ _ => rfl)) pa_nil)))
        (pss_cons (ps_set (i := 7) scFr.nd rfl (.inl rfl) (pe_ix ix_list (pe_lst (pa_cons (pe_op op_sub (pv 6) pe_int)
            (pa_cons (pe_callB (call_max2 rfl) (by rfl) T.max (by decide +kernel) (pa_cons pe_int (pa_cons (pe_op op_sub (pe_op op_sub (pv 6) pe_int) (pe_call GD hr1 (by rfl) gD kD bD .nil pass0 (pa_cons (pv 0) (pa_cons pe_int pa_nil)))) pa_nil)))
            (pa_cons (pe_call GD hr1 (by rfl) gD kD bD .nil pass0 (pa_cons (pv 0) (pa_cons (pv 6) pa_nil))) pa_nil))))
            (pe_call GD hr1 (by rfl) gD kD bD .nil pass0 (pa_cons (pv 0) (pa_cons pe_int pa_nil))) (fun _ _ => rfl)))
        (pss_cons (ps_set (i := 8) scFr.nd rfl (.inl rfl) (pe_callTy call_tuple_of (by rfl) T.tuple (by decide +kernel) (pa_cons (pe_lc (own := [("_law_j", 10)]) (g := gName 10) (tt := tYes)
            (te := tCall spNote [] E0 (tCons (tVar 0) (tCons (tVar 1) (tCons (tDisp [(tOp (rIxL K) (tVar 1) (tC (.int 0)), tC (.str "v"))]) tNil)))) rfl scFr.nd
            (pi_range1 (by rfl) T.range (pa_cons (pe_call GD hr1 (by rfl) gD kD bD .nil pass0 (pa_cons (pv 0) (pa_cons pe_int pa_nil))) pa_nil)) (blkOk_by (N := nFr) (sc := defScope sFree) (by decide +kernel))
            (fun _ _ _ _ _ => pg_name (i := 10) scFr.nd rfl (.inl rfl)) (fun _ _ _ _ _ => pts_nil)
            (fun _ _ _ _ _ => pe_call GN hr (by rfl) gN kN bN .nil pass0 (pa_cons (pv 0) (pa_cons (pv 1) (pa_cons (pe_disp (pps_cons (pe_ix ix_list (pv 1) pe_int (fun _ _ => rfl)) pe_str pps_nil) rfl rfl (by simp) (by decide)) pa_nil))))) pa_nil)))
        (pss_cons (ps_set (i := 9) scFr.nd rfl (.inl rfl) (pe_callTy call_tuple_of (by rfl) T.tuple (by decide +kernel) (pa_cons (pe_callB (cr_sortedSS rfl) (by rfl) T.sorted (by decide +kernel) (pa_cons (pe_callTy (cr_setOfS rfl) (by rfl) T.set (by decide +kernel) (pa_cons (pe_lc (own := [("_law_j", 10)]) (g := gName 10) (tt := tYes)
            (te := tOp (rIxL K) (tVar 1) (tCall spDip [] E0 (tCons (tVar 0) (tCons (tCB (rLenQ K) (tCons (tVar 1) tNil)) tNil)))) rfl scFr.nd
            (pi_range1 (by rfl) T.range (pa_cons (pe_call GD hr1 (by rfl) gD kD bD .nil pass0 (pa_cons (pv 0) (pa_cons pe_int pa_nil))) pa_nil)) (blkOk_by (N := nFr) (sc := defScope sFree) (by decide +kernel))
            (fun _ _ _ _ _ => pg_name (i := 10) scFr.nd rfl (.inl rfl)) (fun _ _ _ _ _ => pts_nil)
            (fun _ _ _ _ _ => pe_ix ix_list (pv 1) (pe_call GD hr1 (by rfl) gD kD bD .nil pass0 (pa_cons (pv 0) (pa_cons (pe_callB call_len_seq (by rfl) T.len PySem.boot_len (pa_cons (pv 1) pa_nil)) pa_nil))) (fun _ _ => rfl))) pa_nil)) pa_nil)) pa_nil)))
        (pss_one (ps_dput hu (pv 3) (pv 6) (pe_tup (pa_cons (pv 6) (pa_cons (pv 7) (pa_cons (pv 8) (pa_cons (pv 9) pa_nil))))) rfl)))))))
      (pss_one (ps_ret (pv 3)))), ?_⟩
    -- nodes, left = {}, ..
    intro D nD
    have s1 := same_upd (o := .dK []) nD
    have nDa : D ≠ a := (hw.ne nD).symm
    refine ⟨_, rfl, _, rfl, a, b, m, rfl, hw.same s1, by omega, by omega, m1, fun H1 Lf xs k1 hw1 nL hL xl xp xb => ⟨_, _, rfl, ?_⟩⟩
    have N : FN H a pl D Lf := ⟨npl, nDa, ((hw.same s1).ne nL).symm, nD, s1.free nL, (fun e => by rw [← e, upd_same] at nL; cases nL), (ne_of_none hpl nD).symm, (ne_of_none hpl (s1.free nL)).symm⟩
    have C1 : FS H H1 a pl D Lf ks [] [] xs (b + 20) := ⟨(KeepW.of_same s1).trans k1, hw1, k1 _ _ (s1 _ _ hpl) npl, hL, k1 _ _ upd_same nDa, .nil⟩
    refine ⟨_, rfl, m, rfl, by omega, by omega, for_range (lo := 0) (n := m.toNat) (fun i σ H' => ∃ kvs ns xs1 o5 o6 o7 o8 o9, σ = [some (.ref a), some (.ref pl), some (.int m), some (.ref D), some (.ref Lf), o5, o6, o7, o8, o9, none] ∧ FS H H' a pl D Lf ks kvs ns xs1 (b + 20 + 100 * i) ∧ (xs1 ++ ns.map Nd.num).Perm xs ∧ xs1.length + i = m.toNat ∧ ∀ n, n ∈ ns → NdOk n)
      ⟨[], [], xs, none, none, none, none, none, rfl, C1, by rw [List.map_nil, List.append_nil], by omega, (fun n hn => by cases hn)⟩ (fun i σ H' hi pr => ?_) (fun σ H' pr => ?_)⟩
    · obtain ⟨kvs, ns, xs1, o5, o6, o7, o8, o9, rfl, C, pm, cnt, ok⟩ := pr
      have hi8 : i < 8 := by omega
      have l1 : 0 < xs1.length := by omega
      have l8 : xs1.length ≤ 8 := by omega
      have ndx : (xs1 ++ ns.map Nd.num).Nodup := pm.nodup_iff.mpr (xp.imp fun h => by omega)
      -- number
      refine ⟨_, rfl, .inl ⟨rfl, _, SqL.of C.left⟩, _, rfl, _, rfl, Lf, _, rfl, .inl (SqL.of C.left), a, _, _, rfl, C.well, by omega, by rw [List.length_map]; omega, by rw [List.length_map]; omega, fun H2 c k2 w2 c0 c1 => ⟨(by show 2 ≤ sizeLine; decide), fun T nT => ?_⟩⟩
      rw [List.length_map] at c1
      have C2 := C.drawn N k2 w2
      have sT := same_upd (o := .lst [V.int 0, V.int c]) nT
      have C3 := C2.same sT
      have nTa := (C2.ne nT).1
      refine ⟨_, rfl, a, _, 2, rfl, C3.well, by omega, by decide, by decide, fun H4 d k4 w4 d0 d1 => ?_⟩
      have C4 := C3.drawn N k4 w4
      obtain ⟨e, ate, me⟩ : ∃ y, atI ([0, c].map V.int) d = some (.int y) ∧ y ∈ [0, c] := atI_ints _ _ (by show -(2 : Int) ≤ d; omega) (by show d < (2 : Int); omega)
      have eb : 0 ≤ e ∧ e < xs1.length := by
        rcases List.mem_cons.mp me with z | z
        · rw [z]
          omega
        · rw [List.mem_singleton.mp z]
          omega
      have hel : e.toNat < xs1.length := by omega
      have ge : xs1[e.toNat]? = some xs1[e.toNat] := List.getElem?_eq_getElem hel
      have gv : (xs1.map V.int)[e.toNat]? = some (.int xs1[e.toNat]) := by
        rw [List.getElem?_map, ge]
        rfl
      have hsq : seqIndex? e (xs1.map V.int).length = some e.toNat := (ixN_seq (by
        unfold ixN
        rw [List.length_map, if_pos eb.1, if_pos (by omega)])).1
      refine ⟨T, _, d, .int e, rfl, rfl, SqL.of (k4 _ _ upd_same nTa), ate, Lf, _, e, e.toNat, _, rfl, rfl, C4.left, by omega, by omega, hsq, gv, ?_⟩
      generalize hnum : xs1[e.toNat] = num at *
      have er : (xs1.map V.int).eraseIdx e.toNat = (xs1.eraseIdx e.toNat).map V.int := erase_mapI _ _
      rw [er]
      have C5 := C4.pop N (xs' := xs1.eraseIdx e.toNat)
      have nb : 1 ≤ num ∧ num ≤ 1000 := xb num (pm.mem_iff.mp (List.mem_append_left _ (List.mem_of_getElem? ge)))
      -- snapshot
      refine ⟨_, rfl, _, _, rfl, rfl, _, rfl, _, _, rfl, rfl, _, rfl, a, _, 6, rfl, C5.well, by omega, by decide, by decide, fun H6 f6 k6 w6 f0 f1 => ⟨_, _, rfl, rfl, _, _, rfl, ?_⟩⟩
      have C6 := C5.drawn N k6 w6
      refine ⟨_, rfl, _, rfl, a, _, _, rfl, C6.well, by omega, by omega, by omega, fun H7 g7 k7 w7 g0 g1 => ⟨(by show 3 ≤ sizeLine; decide), fun T2 nT2 => ?_⟩⟩
      have C7 := C6.drawn N k7 w7
      generalize hmx : (if num - 1 - f6 > 0 then num - 1 - f6 else (0 : Int)) = mx
      have mxb : 0 ≤ mx ∧ mx < num := by
        rw [← hmx]
        by_cases z : num - 1 - f6 > 0
        · rw [if_pos z]
          omega
        · rw [if_neg z]
          omega
      have sT2 := same_upd (o := .lst [V.int (num - 1), V.int mx, V.int g7]) nT2
      have C8 := C7.same sT2
      have nT2a := (C7.ne nT2).1
      refine ⟨_, rfl, a, _, 3, rfl, C8.well, by omega, by decide, by decide, fun H9 h9 k9 w9 h0 h1 => ?_⟩
      have C9 := C8.drawn N k9 w9
      obtain ⟨sn, ats, ms⟩ : ∃ y, atI ([num - 1, mx, g7].map V.int) h9 = some (.int y) ∧ y ∈ [num - 1, mx, g7] := atI_ints _ _ (by show -(3 : Int) ≤ h9; omega) (by show h9 < (3 : Int); omega)
      have snb : 0 ≤ sn ∧ sn ≤ 1000 := by
        rcases List.mem_cons.mp ms with z | z
        · rw [z]
          omega
        · rcases List.mem_cons.mp z with z | z
          · rw [z]
            omega
          · rw [List.mem_singleton.mp z]
            omega
      refine ⟨T2, _, h9, .int sn, rfl, rfl, SqL.of (k9 _ _ upd_same nT2a), ats, ?_⟩
      -- notes
      refine ⟨_, rfl, a, _, 3, rfl, C9.well, by omega, by decide, by decide, fun H12 c12 k12 w12 p0 p1 => ⟨c12, rfl, by omega, by omega, fun D2 nD2 => ?_⟩⟩
      have C12 := C9.drawn N k12 w12
      have C13 := C12.same (same_upd (o := .lst []) nD2)
      have nD2f := C12.ne nD2
      refine walk_range (lo := 0) (n := c12.toNat) (fun j H' => FS H H' a pl D Lf ks kvs ns (xs1.eraseIdx e.toNat) (b + 20 + 100 * i + 8 + 20 * j) ∧ ∃ vs ts, H' D2 = some (.lst vs) ∧ DTs H' vs (ts.map Nt.d) ∧ ts.length = j ∧ ∀ t, t ∈ ts → NtOk t)
        ⟨C13.more (by omega), [], [], upd_same, .nil, rfl, fun t ht => by cases ht⟩ (fun j H' hj pr => ?_) (fun H' pr => ?_)
      · obtain ⟨C14, vs, ts, hD14, hvs, tl, tok⟩ := pr
        obtain ⟨k0, r0, ek⟩ : ∃ k0 r0, ks = k0 :: r0 := by
          cases ks with
          | nil => exact absurd rfl kn
          | cons h t => exact ⟨h, t, rfl⟩
        refine ⟨rfl, _, rfl, _, rfl, fun z nz => ?_⟩
        have sz := same_upd (o := .dK []) nz
        have C15 := C14.same sz
        refine ⟨_, rfl, pl, _, 0, .str k0, rfl, rfl, SqL.of C15.pool, (by rw [ek]; exact atI_nat (j := 0) rfl), upd_same, [(Sum.inr k0, V.str "v")], rfl, (by show 1 ≤ 15; decide), ?_⟩
        have sz2 := same_upd2 (o := .dK []) (o' := .dK (mergeK [] [((Sum.inr k0 : Key), V.str "v")])) nz
        have C16 := C14.same sz2
        refine ⟨a, _, pl, ks, z, [k0], rfl, C16.well, by omega, C16.pool, npl, kn, kl, kb, .inl upd_same, Nat.le_refl 1, (fun k hk => by
          rw [List.mem_singleton.mp hk]
          have := kb k0 (by rw [ek]; exact List.mem_cons_self)
          omega), fun H17 v' t' k17 w17 dt ok' => ?_⟩
        have C17 := C16.drawn N k17 w17
        have hD17 := k17 _ _ (sz2 _ _ hD14) nD2f.1
        have tp17 := (Same.tups sz2).trans (k17.tups C16.well)
        have tL := tups_upd_lst (o := .lst (vs ++ [v'])) hD17
        refine ⟨_, hD17, ?_, (C17.own nD2f tL).more (by omega), vs ++ [v'], ts ++ [t'], upd_same, ?_, ?_, fun t ht => ?_⟩
        · have e1 := hvs.length
          rw [List.length_map] at e1
          exact small1000 (by omega)
        · rw [List.map_append]
          exact DTs.append ((hvs.mono tp17).mono tL) (.cons (dt.mono tL) .nil)
        · rw [List.length_append, List.length_singleton, tl]
        · rcases List.mem_append.mp ht with q1 | q1
          · exact tok t q1
          · rw [List.mem_singleton.mp q1]
            exact ok'
      · obtain ⟨C14, vs, ts, hD14, hvs, tl, tok⟩ := pr
        refine ⟨D2, _, rfl, .inl ⟨SqL.of hD14, fun Tn nTn => ?_⟩⟩
        have sTn := same_upd (o := .tup vs) nTn
        have C18 := C14.same sTn
        have hvs18 := hvs.mono (Same.tups sTn)
        have hTn18 : (upd H' Tn (.tup vs)) Tn = some (.tup vs) := upd_same
        generalize upd H' Tn (.tup vs) = H18 at *
        -- keys
        refine ⟨_, rfl, a, _, 3, rfl, C18.well, by omega, by decide, by decide, fun H19 c19 k19 w19 q0 q1 => ⟨c19, rfl, by omega, by omega, fun D3 nD3 => ?_⟩⟩
        have C19 := C18.drawn N k19 w19
        have tp19 := k19.tups C18.well
        have sD3 := same_upd (o := .lst []) nD3
        have C20 := C19.same sD3
        have nD3f := C19.ne nD3
        refine walk_range (lo := 0) (n := c19.toNat) (fun j H' => FS H H' a pl D Lf ks kvs ns (xs1.eraseIdx e.toNat) (b + 20 + 100 * i + 8 + 20 * c12.toNat + 1 + j) ∧ H' Tn = some (.tup vs) ∧ DTs H' vs (ts.map Nt.d) ∧ ∃ zs : List Str, H' D3 = some (.lst (zs.map V.str)) ∧ zs.length = j ∧ ∀ k, k ∈ zs → k ∈ ks)
          ⟨C20.more (by omega), sD3 _ _ (tp19 _ _ hTn18), (hvs18.mono tp19).mono (Same.tups sD3), [], upd_same, rfl, fun k hk => by cases hk⟩ (fun j H' hj pr => ?_) (fun H' pr => ?_)
        · obtain ⟨C21, hTn21, hvs21, zs, hD21, zl, zk⟩ := pr
          have kl0 : 0 < ks.length := List.length_pos_iff.mpr kn
          refine ⟨rfl, _, rfl, _, rfl, _, rfl, pl, _, rfl, .inl (SqL.of C21.pool), a, _, _, rfl, C21.well, by omega, by rw [List.length_map]; omega, by rw [List.length_map]; omega, fun H22 d22 k22 w22 u0 u1 => ?_⟩
          rw [List.length_map] at u1
          have C22 := C21.drawn N k22 w22
          have hD22 := k22 _ _ hD21 nD3f.1
          have tp22 := k22.tups C21.well
          obtain ⟨k, hk⟩ : ∃ k, ks[d22.toNat]? = some k := ⟨_, List.getElem?_eq_getElem (show d22.toNat < ks.length by omega)⟩
          have atk : atI (ks.map V.str) d22 = some (.str k) := by
            have h2 : (ks.map V.str)[d22.toNat]? = some (.str k) := by
              rw [List.getElem?_map, hk]
              rfl
            have h3 := atI_nat h2
            rw [show ((d22.toNat : Nat) : Int) = d22 by omega] at h3
            exact h3
          have tL := tups_upd_lst (o := .lst ((zs ++ [k]).map V.str)) hD22
          refine ⟨pl, _, d22, .str k, rfl, rfl, SqL.of C22.pool, atk, _, hD22, ?_, ?_⟩
          · rw [List.length_map]
            exact small1000 (by omega)
          · have ee : zs.map V.str ++ [V.str k] = (zs ++ [k]).map V.str := by
              rw [List.map_append]
              rfl
            rw [ee]
            refine ⟨(C22.own nD3f tL).more (by omega), tL _ _ (tp22 _ _ hTn21), (hvs21.mono tp22).mono tL, zs ++ [k], upd_same, ?_, fun k' hk' => ?_⟩
            · rw [List.length_append, List.length_singleton, zl]
            · rcases List.mem_append.mp hk' with z | z
              · exact zk k' z
              · rw [List.mem_singleton.mp z]
                exact List.mem_of_getElem? hk
        · obtain ⟨C21, hTn21, hvs21, zs, hD21, zl, zk⟩ := pr
          refine ⟨D3, zs, rfl, SqL.of hD21, by omega, fun S nS => ⟨S, zs, zs.length, rfl, upd_same, by omega, fun ys p hm hl np => ⟨p, _, rfl, .inl ⟨SqL.of upd_same, fun Tk nTk => ?_⟩⟩⟩⟩
          have sS := same_upd (o := SetSO w S zs zs.length) nS
          have sp := same_upd (o := .lst (ys.map V.str)) np
          have sTk := same_upd (o := .tup (ys.map V.str)) nTk
          have sA := (sS.trans sp).trans sTk
          have C23 := C21.same sA
          -- nodes[number] = ..
          refine ⟨_, rfl, _, rfl, _, rfl, _, rfl, (by show 4 ≤ sizeLine; decide), fun tp ntp => ?_⟩
          have stp := same_upd (o := .tup [V.int num, V.int sn, V.ref Tn, V.ref Tk]) ntp
          have C24 := C23.same stp
          have sB := sA.trans stp
          have nd : NdAt (upd (upd (upd (upd H' S (SetSO w S zs zs.length)) p (.lst (ys.map V.str))) Tk (.tup (ys.map V.str))) tp (.tup [V.int num, V.int sn, V.ref Tn, V.ref Tk])) (.ref tp) ⟨num, sn, ts, ys⟩ :=
            ⟨.tup upd_same (.cons (.int _) (.cons (.int _) (.cons (.tup (sB _ _ hTn21) (hvs21.mono (Same.tups sB))) (.cons (.tup (stp _ _ upd_same) (DTs.strs _)) .nil)))), by show ts.length ≤ 8; omega, by show ys.length ≤ 8; omega⟩
          have pe := erase_perm xs1 e.toNat num ge
          have nn2 : num ∉ ns.map Nd.num := fun h2 => (List.nodup_append.mp ndx).2.2 num (List.mem_of_getElem? ge) num h2 rfl
          have vn := paired_keys2 C.np nn2
          have nl8 : ns.length ≤ 8 := by
            have e1 := pm.length_eq
            rw [List.length_append, List.length_map] at e1
            omega
          have kvl : kvs.length ≤ 8 := by
            rw [paired_len C.np]
            exact nl8
          refine ⟨_, rfl, _, rfl, D, _, rfl, DPut.k (k := Sum.inl num) C24.dict (small1000 (by omega)), ?_⟩
          rw [putK_new _ vn]
          have C25 := C24.put N nd
          refine ⟨_, ns ++ [⟨num, sn, ts, ys⟩], xs1.eraseIdx e.toNat, _, _, _, _, _, rfl, C25.more (by omega), ?_, ?_, fun n hn => ?_⟩
          · rw [List.map_append, ← List.append_assoc]
            refine List.perm_append_comm.trans ?_
            show ([num] ++ (xs1.eraseIdx e.toNat ++ ns.map Nd.num)).Perm xs
            rw [← List.append_assoc]
            exact (List.Perm.append_right _ pe).trans pm
          · have e1 := pe.length_eq
            rw [List.length_cons] at e1
            omega
          · rcases List.mem_append.mp hn with z | z
            · exact ok n z
            · rw [List.mem_singleton.mp z]
              exact ⟨by show 0 ≤ num; omega, nb.2, snb.1, snb.2, tok, fun k hk => by have := kb k (zk k (hm k hk)); omega⟩
    · obtain ⟨kvs, ns, xs1, o5, o6, o7, o8, o9, rfl, C, pm, cnt, ok⟩ := pr
      have e1 : xs1 = [] := List.eq_nil_of_length_eq_zero (by omega)
      subst e1
      rw [List.nil_append] at pm
      have nl := pm.length_eq
      rw [List.length_map] at nl
      exact ⟨_, rfl, q H' D kvs ns C.keep (C.well.more (by omega)) nD C.dict ⟨C.np, pm.nodup_iff.mpr (xp.imp fun h => by omega), by omega⟩ ok⟩
end
end K46

set_option Elab.async false
set_option linter.all false
set_option maxRecDepth 100000
set_option maxHeartbeats 4000000
/-! K46V: repr of a dictionary of nodes. -/
namespace K46
open PySem PySem.Spec PyProof.Rows L2
/-! ### how great what is told may be -/
structure Fine (n k : Nat) (d : PyData) : Prop where
  ls : d.leavesShort 8 = true
  sh : d.showable = true
  bk : d.bulk ≤ n
  dp : d.depth ≤ k
theorem fine_all {n k : Nat} : ∀ {ds : List PyData}, (∀ d, d ∈ ds → Fine n k d) → PyData.leavesShortAll 8 ds = true ∧ PyData.showableAll ds = true ∧ PyData.bulkAll ds ≤ ds.length * (n + 1) ∧ PyData.depthAll ds ≤ k
  | [], _ => ⟨rfl, rfl, Nat.zero_le _, Nat.zero_le _⟩
  | d :: ds, h => by
    obtain ⟨a1, a2, a3, a4⟩ := fine_all (ds := ds) fun x hx => h x (List.mem_cons_of_mem _ hx)
    have f := h d List.mem_cons_self
    have b3 := f.bk
    have b4 := f.dp
    refine ⟨?_, ?_, ?_, ?_⟩
    · simp only [PyData.leavesShortAll, f.ls, a1, Bool.and_self]
    · simp only [PyData.showableAll, f.sh, a2, Bool.and_self]
    · simp only [PyData.bulkAll, List.length_cons]
      have e : (ds.length + 1) * (n + 1) = ds.length * (n + 1) + (n + 1) := Nat.succ_mul _ _
      omega
    · simp only [PyData.depthAll]
      omega
theorem fine_tup {n k : Nat} {ds : List PyData} (h : ∀ d, d ∈ ds → Fine n k d) {m : Nat} (hm : ds.length * (n + 1) ≤ m) : Fine m (k + 1) (.tuple ds) := by
  obtain ⟨a1, a2, a3, a4⟩ := fine_all h
  exact ⟨by simpa only [PyData.leavesShort] using a1, by simpa only [PyData.showable] using a2, by simp only [PyData.bulk]; omega, by simp only [PyData.depth]; omega⟩
theorem Fine.more {n k m j : Nat} {d : PyData} (h : Fine n k d) (a : n ≤ m) (b : k ≤ j) : Fine m j d := ⟨h.ls, h.sh, Nat.le_trans h.bk a, Nat.le_trans h.dp b⟩
theorem ints_short : (List.range 1001).all (fun i => (PyData.int (i : Int)).leavesShort 8 && (PyData.int (i : Int)).showable) = true := by decide +kernel
theorem fine_int {i : Int} (h0 : 0 ≤ i) (h1 : i ≤ 1000) : Fine 0 0 (.int i) := by
  obtain ⟨n, rfl⟩ := Int.eq_ofNat_of_zero_le h0
  have h := List.all_eq_true.mp ints_short n (List.mem_range.mpr (by omega))
  rw [Bool.and_eq_true] at h
  exact ⟨h.1, h.2, by simp [PyData.bulk], by simp [PyData.depth]⟩
theorem fine_str {x : Str} {n : Nat} (h : sl x ≤ n) (hn : n ≤ 1000) : Fine n 0 (.str x) := by
  have h1 := sl_ok (Nat.le_trans h hn)
  have h2 := sl_len x
  refine ⟨by simp only [PyData.leavesShort]; exact h1, by simp only [PyData.showable], ?_, by simp [PyData.depth]⟩
  simp only [PyData.bulk]
  exact Nat.le_trans h2 h
theorem fine_none {n : Nat} : Fine n 0 .none := ⟨rfl, rfl, by simp [PyData.bulk], by simp [PyData.depth]⟩
theorem fine_optD {o : Option Str} (h : shortO o) : Fine 30 0 (optD o) := by
  cases o with
  | none => exact fine_none
  | some x => exact fine_str h (by decide)
theorem sl_value : sl "value" ≤ 30 := by decide +kernel
theorem sl_entries : sl "entries" ≤ 30 := by decide +kernel
theorem sl_v : sl "v" ≤ 30 := by decide +kernel
theorem fine_nt {t : Nt} (h : NtOk t) : Fine 600 3 t.d := by
  cases t with
  | val k v =>
    obtain ⟨h1, h2⟩ := h
    refine (fine_tup (n := 30) (k := 0) (m := 600) (fun d hd => ?_) (by show 3 * 31 ≤ 600; decide)).more (Nat.le_refl _) (by decide)
    rcases List.mem_cons.mp hd with z | z
    · rw [z]
      exact fine_str sl_value (by decide)
    rcases List.mem_cons.mp z with z | z
    · rw [z]
      exact fine_str h1 (by decide)
    · rw [List.mem_singleton.mp z]
      rcases h2 with e | e
      · rw [e]
        exact fine_none
      · rw [e]
        exact fine_str sl_v (by decide)
  | ent lo hi r =>
    obtain ⟨h1, h2, rs, rfl, h3, h4⟩ := h
    refine fine_tup (n := 100) (k := 2) (m := 600) (fun d hd => ?_) (by show 4 * 101 ≤ 600; decide)
    rcases List.mem_cons.mp hd with z | z
    · rw [z]
      exact (fine_str sl_entries (by decide)).more (by decide) (by decide)
    rcases List.mem_cons.mp z with z | z
    · rw [z]
      exact (fine_optD h1).more (by decide) (by decide)
    rcases List.mem_cons.mp z with z | z
    · rw [z]
      exact (fine_optD h2).more (by decide) (by decide)
    · rw [List.mem_singleton.mp z]
      refine fine_tup (n := 62) (k := 1) (m := 100) (fun d hd => ?_) (by rw [List.length_map]; omega)
      obtain ⟨k, hk, rfl⟩ := List.mem_map.mp hd
      refine fine_tup (n := 30) (k := 0) (m := 62) (fun d hd => ?_) (by show 2 * 31 ≤ 62; decide)
      rcases List.mem_cons.mp hd with z | z
      · rw [z]
        exact fine_str (h4 k hk) (by decide)
      · rw [List.mem_singleton.mp z]
        exact fine_str sl_v (by decide)
theorem fine_nd {n : Nd} (h : NdOk n) (hN : n.notes.length ≤ 8) (hK : n.keys.length ≤ 8) : Fine 30000 5 n.d := by
  refine fine_tup (n := 5000) (k := 4) (m := 30000) (fun d hd => ?_) (by show 4 * 5001 ≤ 30000; decide)
  rcases List.mem_cons.mp hd with z | z
  · rw [z]
    exact (fine_int h.n0 h.n1).more (by decide) (by decide)
  rcases List.mem_cons.mp z with z | z
  · rw [z]
    exact (fine_int h.s0 h.s1).more (by decide) (by decide)
  rcases List.mem_cons.mp z with z | z
  · rw [z]
    refine fine_tup (n := 600) (k := 3) (m := 5000) (fun d hd => ?_) (by rw [List.length_map]; omega)
    obtain ⟨t, ht, rfl⟩ := List.mem_map.mp hd
    exact fine_nt (h.notes t ht)
  · rw [List.mem_singleton.mp z]
    refine (fine_tup (n := 30) (k := 0) (m := 5000) (fun d hd => ?_) (by rw [List.length_map]; omega)).more (Nat.le_refl _) (by decide)
    obtain ⟨k, hk, rfl⟩ := List.mem_map.mp hd
    exact fine_str (h.keys k hk) (by decide)
/-- the dictionary as data -/
def nodesD (ns : List Nd) : PyData := .dict (ns.map fun n => (PyData.int n.num, n.d))
theorem fine_nodes : ∀ {ns : List Nd}, (∀ n, n ∈ ns → NdOk n ∧ n.notes.length ≤ 8 ∧ n.keys.length ≤ 8) → PyData.leavesShortKv 8 (ns.map fun n => (PyData.int n.num, n.d)) = true ∧ PyData.showableKv (ns.map fun n => (PyData.int n.num, n.d)) = true ∧
    PyData.bulkKv (ns.map fun n => (PyData.int n.num, n.d)) ≤ ns.length * 30002 ∧ PyData.depthKv (ns.map fun n => (PyData.int n.num, n.d)) ≤ 5
  | [], _ => ⟨rfl, rfl, Nat.zero_le _, Nat.zero_le _⟩
  | n :: ns, h => by
    obtain ⟨a1, a2, a3, a4⟩ := fine_nodes (ns := ns) fun x hx => h x (List.mem_cons_of_mem _ hx)
    obtain ⟨h1, h2, h3⟩ := h n List.mem_cons_self
    have f := fine_nd h1 h2 h3
    have g := fine_int h1.n0 h1.n1
    have f3 := f.bk
    have f4 := f.dp
    have g3 := g.bk
    have g4 := g.dp
    refine ⟨?_, ?_, ?_, ?_⟩
    · simp only [List.map_cons, PyData.leavesShortKv, f.ls, g.ls, a1, Bool.and_self]
    · simp only [List.map_cons, PyData.showableKv, f.sh, g.sh, a2, Bool.and_self]
    · simp only [List.map_cons, PyData.bulkKv, List.length_cons]
      omega
    · simp only [List.map_cons, PyData.depthKv]
      omega
/-! ### what the heap holds, read as data -/
section
variable {P : Program} {w : World} {H : Hp} {h : Heap}
mutual
theorem reads_dt (ok : HOk P w H h) : ∀ {v : V} {d : PyData}, DT H v d → ∀ {u : Value}, RelV v u → Reads h u d []
  | _, _, .non, u, r => by
    have e : u = Value.none := r
    rw [e]
    exact .none
  | _, _, .int i, u, r => by
    obtain ⟨t, rfl⟩ := r
    exact .int i t
  | _, _, .str x, u, r => by
    obtain ⟨t, rfl⟩ := r
    exact .str x t
  | _, _, .tup (a := a) ha hs, u, r => by
    have e : u = Value.ref a := r
    rw [e]
    obtain ⟨_, its, rv, ⟨o, ho, hc, n, hd⟩⟩ := ok a _ ha
    exact .tuple ho hc hd (by simpa using reads_dts ok hs rv)
theorem reads_dts (ok : HOk P w H h) : ∀ {vs : List V} {ds : List PyData}, DTs H vs ds → ∀ {us : List Value}, Vals vs us → ReadsAll h us ds []
  | _, _, .nil, us, r => by
    cases r
    exact .nil
  | _, _, .cons a b, us, r => by
    cases r with
    | cons r1 r2 => exact ReadsAll.cons (as := []) (bs := []) (reads_dt ok a r1) (reads_dts ok b r2)
end
theorem reads_kvs (ok : HOk P w H h) : ∀ {kvs : List (Key × V)} {ns : List Nd}, Paired (KvOk H) kvs ns → ∀ {vs : List (Key × Value)} {es : List DictEntry}, KV kvs vs → Pairs (mixKind P w) es vs →
    ReadsAll h (es.map (·.key)) (ns.map fun n => PyData.int n.num) [] ∧ ReadsAll h (es.map (·.val)) (ns.map Nd.d) []
  | _, _, .nil, vs, es, r, p => by
    cases r
    cases p
    exact ⟨.nil, .nil⟩
  | _, _, .cons a b, vs, es, r, p => by
    cases r with
    | cons r1 r2 =>
      cases p with
      | cons p1 p2 p3 =>
        obtain ⟨q1, q2⟩ := reads_kvs ok b r2 p3
        rw [← r1.1, a.1] at p1
        obtain ⟨t, ek⟩ := Value.isInt_shape p1
        refine ⟨?_, ?_⟩
        · rw [List.map_cons, List.map_cons, ek]
          exact ReadsAll.cons (as := []) (bs := []) (.int _ t) q1
        · rw [List.map_cons, List.map_cons, p2]
          exact ReadsAll.cons (as := []) (bs := []) (reads_dt ok a.2.d r1.2) q2
end
/-- repr of a dictionary of nodes -/
def rReprN : List V → Hp → VK → Prop := fun xs H Q => ∃ a kvs ns, xs = [.ref a] ∧ H a = some (.dK kvs) ∧ NdsAt H kvs ns ∧ (∀ n, n ∈ ns → NdOk n) ∧ Q (.str (nodesD ns).shown) H
theorem nds_few {H : Hp} : ∀ {kvs : List (Key × V)} {ns : List Nd}, Paired (KvOk H) kvs ns → ∀ n, n ∈ ns → n.notes.length ≤ 8 ∧ n.keys.length ≤ 8
  | _, _, .cons h t, n, hn => by
    rcases List.mem_cons.mp hn with z | z
    · rw [z]
      exact ⟨h.2.fewN, h.2.fewK⟩
    · exact nds_few t n z
theorem call_reprN {X : Cx} (hg : X.A.guards = some []) (hu : X.A.units + 20 < cLine) : CallR X (.builtin "repr") rReprN := by
  intro pins s σ H xs us Q I r h
  obtain ⟨a, kvs, ns, rfl, ha, hn, hok, q⟩ := h
  rw [Vals.ref1 r]
  obtain ⟨z, hd, vs, rel, o, es, ep, ho, hx, hdt, _, hp, _⟩ := dk_of I.hok ha
  obtain ⟨r1, r2⟩ := reads_kvs I.hok hn.p rel hp
  have rd : Reads s.heap (.ref a) (nodesD ns) ([a] ++ []) := by
    refine Reads.dict (as := []) (bs := []) ho hx.1 hdt ?_ ?_
    · rw [List.map_map]
      exact r1
    · rw [List.map_map]
      exact r2
  obtain ⟨f1, f2, f3, f4⟩ := fine_nodes (ns := ns) fun n h => ⟨hok n h, nds_few hn.p n h⟩
  have few := hn.few
  have hsz : (nodesD ns).shown.length ≤ sizeLine := by
    refine PyData.shown_fits_bulk (B := 8) (by decide) (by decide) (by unfold nodesD; simpa only [PyData.leavesShort] using f1) ?_
    unfold nodesD
    simp only [PyData.bulk]
    omega
  have hdp : (nodesD ns).depth ≤ 6 := by
    unfold nodesD
    simp only [PyData.depth]
    omega
  refine repr_of_reads' (prog := X.prog) (w := X.w) rd (by unfold nodesD; simpa only [PyData.showable] using f2) (fun _ hm => ?_) hg (by omega) (fun _ _ e => e) (fun h' u tk k => ?_) hsz
  · rw [List.append_nil, List.mem_singleton] at hm
    rw [← hm] at hd
    exact absurd hd (by decide)
  · exact ⟨.str (nodesD ns).shown, H, I.kept (t' := tk) k, ⟨u, rfl⟩, q⟩
end K46

set_option Elab.async false
set_option linter.all false
set_option maxRecDepth 100000
set_option maxHeartbeats 4000000
/-! K46W: rules that law wants: a call with keywords alone; min and index of a tuple of whole numbers; the entry with no guards under way. -/
namespace K46
open PySem PySem.Spec PyProof.Rows L2
section
variable {X : Cx} {CX : CXT} {k : Nat} {f : Addr} {fd : FuncData} {ps ks : List Str} {sp : Sp} {E : XK} {x : Str} {p pos : Pos} {kws : List Keyword} {tk : TA} {g : List Value → List Value → List Value} {gV : List V → List V → List V}
def tCallK0 (m : Nat) (sp : Sp) (gV : List V → List V → List V) (E : XK) (tk : TA) : TE := fun σ H Q => tk σ H fun zs H2 => zs.length = m ∧ sp (gV [] zs) H2 Q E
/-- f(k = v, ..) -/
theorem pe_callK0 (F : FnOk X.prog X.w X.K X.mg X.base CX k f fd ps sp) (hr : Room k X.A) (hg : Gl X x) (hm : X.mg x = some (.ref f)) (hk : PySem.W.keepIn X.K (.ref f) = true) (hb : KBn X.K fd ps 0 ks g gV) (hx : Passes CX X E)
    (hkw : PK X kws tk) (hall : (backToKw pos (keywordEach kws X.env)).all (·.1.isSome) = true := by rfl) (hks : (backToKw pos (keywordEach kws X.env)).filterMap (·.1) = ks := by rfl)
    (hdb : (x == ("__debug__" : Str)) = false := by decide)
    (hpl : ((backTo pos (starEach [] X.env)).any (·.1) || (backToKw pos (keywordEach kws X.env)).any (·.1.isNone)) = false := by rfl) :
    PE X (.Call (.Name x p) [] kws pos) (tCallK0 ks.length sp gV E tk) := by
  refine ⟨fun pins s σ H Q I h => ?_⟩
  refine wpAny_Call_Name_kw (ld_glob I hg hm ?_ hdb)
  refine PySem.W.callWith_KW0 (h₀ := X.base) I.ok.mod.kin hk hall ?_ hpl
  refine thn (hkw.run pos pins s σ H _ I h) fun ws s2 ⟨zs, H2, I2, rz, l2, q2⟩ => ⟨I2.kIn, ?_⟩
  rw [hks]
  exact run_fnN F hr hb hx I2 (vs := []) (us := []) .nil rz rfl l2 q2
/-- a def of one parameter without defaults, called by its name -/
theorem kb_one {K : PySem.W.Frag} {n qual : Str} {params : Arguments} {body : List Stmt} {scope : Scope} {y : Str} (F : FunD K n qual params body scope [] [] f fd)
    (h : ∀ (kV doc pm : Value) (an : Option Addr) (cdv ct : Value) (u : Value), bindArgs (PySem.W.fnOf n qual params body scope .none kV doc pm an cdv ct) ⟨[], [(y, u)]⟩ = pure [(y, u)]) : KBn K fd [y] 0 [y] (fun _ ws => ws) (fun _ zs => zs) := by
  obtain ⟨oc, od, dV, kV, doc, pm, an, cdv, ct, osl, rfl, lk, hcd, hD, hK⟩ := F.ex
  rcases hD with ⟨_, rfl⟩ | ⟨e, _⟩
  · refine ⟨fun s us ws X l1 l2 => ?_, fun _ r => r⟩
    have e1 : us = [] := List.eq_nil_of_length_eq_zero l1
    subst e1
    match ws, l2 with
    | [u], _ => exact .of_eq (h kV doc pm an cdv ct u)
  · exact absurd rfl e
end
section
variable {X : Cx}
/-- min(t), t a tuple of whole numbers -/
def rMinT (K : PySem.W.Frag) : List V → Hp → VK → Prop := fun vs H Q => ∃ (a : Addr) (ns : List Int), vs = [V.ref a] ∧ SqT K H a (ns.map V.int) ∧ ns ≠ [] ∧ ∀ m, m ∈ ns → (∀ y, y ∈ ns → m ≤ y) → Q (.int m) H
theorem getD_of {ns : List Int} {i : Nat} {k : Int} (h : ns[i]? = some k) : ns.getD i 0 = k := by
  rw [List.getD_eq_getElem?_getD, h]
  rfl
theorem cr_minT (hc : X.calm = true) : CallR X (.builtin "min") (rMinT X.K) := by
  rintro pins s σ H vs us Q I r ⟨a, ns, rfl, hq, hne, q⟩
  rw [Vals.ref1 r]
  obtain ⟨its, rv, pt, _⟩ := I.tuple hq
  have tup : s.heap.IsTuple a its.toArray := pt
  have lt : a < s.heap.objs.size := pt.lt
  have len : its.toArray.size = ns.length := by
    have e := rv.length
    rw [List.length_map] at e
    rw [List.size_toArray, e]
  have pos : 0 < ns.length := List.length_pos_iff.mpr hne
  have val : ∀ (i : Nat) (v : Value), its.toArray[i]? = some v → ∃ t, v = Value.int (ns.getD i 0) t := by
    intro i v hv
    rw [← Array.getElem?_toList] at hv
    exact PyProof.Rows.IntsAre.int_at (ints_of_vals rv) i v hv
  have fresh : ∀ {b : Addr} {o : Obj}, s.heap.get? b = some o → b ∉ [s.heap.objs.size] := fun {b o} e m => Nat.lt_irrefl _ (List.mem_singleton.mp m ▸ Heap.lt_size e)
  obtain ⟨b1, b2⟩ := argBest_lt (fun i => ns.getD i 0) (its.toArray.size - 1)
  refine call_min_walk (wpAny_pyIter_tuple pt ⟨_, _, _, _, _, _, _, rfl, Walks.tuple (A := X.A.in1) (I.ok.hd hc) s.heap.objs.size a (Nat.ne_of_lt lt) its.toArray, ⟨⟨_, Heap.get?_push_size _ rfl, rfl, rfl⟩, tup.push _⟩, fun b hb => ?_, len ▸ pos,
    CmpOf.ints_lt (fun i => ns.getD i 0) val, fun v h' tk hP hk => ?_⟩)
  · have up : s.heap.objs.size < (s.heap.push { cls := .type "tuple_iterator", data := .fields #[.ref a, .int 0 0] }).objs.size := by
      rw [Heap.size_push]
      exact Nat.lt_succ_self _
    rcases List.mem_cons.mp hb with e | e
    · rw [e]
      exact up
    · rw [List.mem_singleton.mp e]
      exact Nat.lt_trans lt up
  · obtain ⟨t, rfl⟩ := val _ v hP
    have there := List.getElem?_eq_getElem (l := ns) (i := argBest (fun i j => decide (ns.getD i 0 < ns.getD j 0)) (its.toArray.size - 1)) (by omega)
    refine ⟨.int _, H, I.kept (t' := tk) fun b u e => hk b u (fresh e) (Heap.get?_push_of_some _ e), ⟨t, rfl⟩, q _ ?_ fun y hy => ?_⟩
    · rw [getD_of there]
      exact List.getElem_mem _
    · obtain ⟨i, hi, rfl⟩ := List.mem_iff_getElem.mp hy
      have e := b2 i (by omega)
      rw [getD_of (List.getElem?_eq_getElem hi)] at e
      exact e
/-- t.index(x), t a tuple of whole numbers, x there -/
def rTIx (K : PySem.W.Frag) : V → List V → Hp → VK → Prop := fun x xs H Q => ∃ (p : Addr) (ys : List Int) (z : Int), x = .ref p ∧ xs = [.int z] ∧ SqT K H p (ys.map V.int) ∧ z ∈ ys ∧ ∀ j : Nat, ys[j]? = some z → Q (.int (j : Nat)) H
theorem first_at (z : Int) : ∀ ys : List Int, z ∈ ys → ∃ j : Nat, ys[j]? = some z ∧ ∀ m : Nat, m < j → ys[m]? ≠ some z
  | [], h => by cases h
  | y :: ys, h => by
    by_cases e : y = z
    · exact ⟨0, by rw [← e]; rfl, fun m hm => absurd hm (Nat.not_lt_zero _)⟩
    · have h2 : z ∈ ys := by
        rcases List.mem_cons.mp h with q | q
        · exact absurd q.symm e
        · exact q
      obtain ⟨j, a, b⟩ := first_at z ys h2
      refine ⟨j + 1, by rw [List.getElem?_cons_succ]; exact a, fun m hm => ?_⟩
      cases m with
      | zero =>
        intro q
        exact e (Option.some.inj q)
      | succ m =>
        rw [List.getElem?_cons_succ]
        exact b m (by omega)
theorem flat_intsV (ys : List Int) : (ys.map V.int).all flatV = true := by
  rw [List.all_map]
  exact List.all_eq_true.mpr fun _ _ => rfl
theorem mt_tup_indexI : MtR X "tuple.index" (rTIx X.K) := by
  rintro pins s σ H x xs v us Q I rx rs ⟨p, ys, z, rfl, rfl, hq, hz, q⟩
  obtain ⟨j, hj, before⟩ := first_at z ys hz
  cases rx
  obtain ⟨u, rfl, t, rfl⟩ := vals1 rs
  obtain ⟨its, r, ⟨⟨cls, dd, dt, sl⟩, ho, hc, n, hd⟩, _⟩ := I.tuple hq
  simp only at hc hd
  subst hc hd
  have item : ∀ (m : Nat) (y : Int), ys[m]? = some y → ∃ hm : m < its.toArray.size, eqU (.int z) its.toArray[m] = (y == z) := by
    intro m y hy
    obtain ⟨u, hu, k, rfl⟩ := r.get (i := m) (x := .int y) (by rw [List.getElem?_map, hy]; rfl)
    obtain ⟨h1, h2⟩ := List.getElem?_eq_some_iff.mp hu
    refine ⟨by rw [List.size_toArray]; exact h1, ?_⟩
    rw [List.getElem_toArray, h2]
    rfl
  obtain ⟨jl, je⟩ := item j z hj
  refine call_meets PySem.F.slot_tuple_index ⟨_, ho, rfl⟩ PySem.F.entry_tuple_index (PySem.F.args_tuple_index_2 _ _) (TI.tuple_indexAt p its.toArray n dd sl (.int z t) (eqU (.int z)) j jl (by rw [je]; exact beq_self_eq_true z) fun m hm hmj => ?_)
    ⟨ho, fun w hw => mem_eqAt (x := .int z) ⟨t, rfl⟩ rfl r (flat_intsV ys) w (by simpa using hw), .int (j : Nat), H, I.tok _, ⟨_, rfl⟩, q j hj⟩
  have lt := (List.getElem?_eq_some_iff.mp hj).1
  have hy : ys[m]? = some (ys[m]'(Nat.lt_trans hmj lt)) := List.getElem?_eq_getElem _
  obtain ⟨_, e⟩ := item m _ hy
  rw [e]
  exact beq_eq_false_iff_ne.mpr fun ez => before m hmj (by rw [hy, ez])
end
/-! ### the law's own entry: no guards are under way -/
structure FnOkG (P : Program) (w : World) (K : PySem.W.Frag) (mg : Str → Option Value) (base : Heap) (f : Addr) (fd : FuncData) (ps : List Str) (sp : Sp) : Prop where
  run : ∀ (s : Shared) (H : Hp) (args : Args) (us : List Value) (vs : List V) (Q : VK) (E : XK), Env0 P w K mg base callerA [] s H → BindsTo s fd args (ps.zip us) → Vals vs us → sp vs H Q E →
    codeAny (model P w) callerA (.call (.ref f) args) (CR CX0 [] P w H s Q E) s
theorem okG {P : Program} {w : World} {K : PySem.W.Frag} {mg : Str → Option Value} {base : Heap} {f : Addr} {fd : FuncData} {k : Nat} {x : Str} {st : Stmt} {N ps : List Str} {sp : Sp} (F : FnP K x st f fd) (S : FnScope N ps (defScope st)) (hr : Room (k + 1) callerA)
    (len : ∀ vs H Q E, sp vs H Q E → vs.length = ps.length)
    (hbody : ∀ (cdv : Value) (s : Shared) (H : Hp) (vs : List V) (Q : VK) (E : XK), Room k (callerA.deeper (envOfC x (defScope st) s.heap.objs.size f cdv)) → (callerA.deeper (envOfC x (defScope st) s.heap.objs.size f cdv)).guards = some [] → sp vs H Q E →
      ∃ t, PSs (cxOf CX0 P w K mg base N x (defScope st) f cdv callerA [] s H E).nox (defBody st) t ∧ t { nx := fun _ H' => Q .non H', rt := Q } (start N vs) H) :
    FnOkG P w K mg base f fd ps sp := by
  obtain ⟨oc, od, dV, kV, doc, pm, an, cdv, ct, osl, rfl, lk, hcd, _, _⟩ := F.ex
  refine ⟨fun s H args us vs Q E e0 hb r hsp => ?_⟩
  have hl := len _ _ _ _ hsp
  have KX : K.In s.heap := e0.mod.kin.keeps fun b o e => (e0.bs b o e).1
  have lim : s.heap.NoLimit := e0.mod.nolimit.keeps fun b o e => (e0.bs b o e).1
  have hkind : ∀ y ∈ ps.zip us, (defScope st).names.lookup y.1 = some .local ∨ ((defScope st).names.lookup y.1 = some .cell ∧ ((cellsFrom (s.heap.objs.size + 1) (defScope st).names []).lookup y.1).isSome = true) := fun ⟨n, v⟩ hy => by
    rcases S.par n (List.of_mem_zip hy).1 with q | q
    · exact .inl q
    · exact .inr ⟨q, PySem.W.cellsFrom_some _ _ _ (.inl q)⟩
  refine codeAny_call_function hr.depth (KX _ _ lk) rfl S.co S.gen rfl (PySem.W.codeRec_of KX hcd) (hb _ _ _ _ ?_)
  refine wpAny_newFunctionEnv_cells S.kind hkind fun env he s1 x1 => ?_
  subst he
  refine ⟨lim.keeps x1.toInCall.keep, codeAny_func ?_⟩
  obtain ⟨t, ht0, hq⟩ := hbody cdv s H vs Q E (hr.deeper _) rfl hsp
  have ht := ht0.nox
  have I : Inv (cxOf CX0 P w K mg base N x (defScope st) f cdv callerA [] s H E) [] (start N vs) H s1 := inv_start S hr.hd e0 hl r x1
  refine wpAny_mono (ht.run [] s1 (start N vs) H _ I hq) (fun fl s' hs => ?_) fun e s' hs => hs
  have fin : ∀ {σ' : L2.St} {H' : Hp} {v : V} {u : Value}, Inv (cxOf CX0 P w K mg base N x (defScope st) f cdv callerA [] s H E) [] σ' H' s' → RelV v u → Q v H' → CE [] P w H s Q u s' :=
    fun {σ' H' v u} J rv q => ⟨v, H', J.os, J.bare, J.base, J.hok, rv, q⟩
  cases fl with
  | ret u =>
    obtain ⟨v, σ', H', J, rv, q⟩ := hs
    exact fin J rv q
  | next =>
    obtain ⟨σ', H', J, q⟩ := hs
    exact fin (v := V.non) (u := Value.none) J rfl q
  | brk =>
    obtain ⟨_, _, _, q⟩ := hs
    exact False.elim q
  | cont =>
    obtain ⟨_, _, _, q⟩ := hs
    exact False.elim q
end K46

set_option Elab.async false
set_option linter.all false
set_option maxRecDepth 100000
set_option maxHeartbeats 8000000
/-! K46X: law. -/
namespace K46
open PySem PySem.Spec PyProof.Rows L2
/-! ### plain -/
theorem reach_mem {ns : List Nd} {x y : Int} (h : Reach ns x y) : y ∈ ns.map Nd.num := by
  cases h with
  | one r => exact r.right
  | more _ r => exact r.right
theorem way_reach {ns : List Nd} {x : Int} {w : List Int} (h : Way ns x w) : ∀ (i : Nat) (u : Int), w[i + 1]? = some u → Reach ns x u
  | 0, u, e => .one (h.next 0 x u h.head e)
  | i + 1, u, e => by
    have hl := (List.getElem?_eq_some_iff.mp e).1
    have hv : w[i + 1]? = some (w[i + 1]'(by omega)) := List.getElem?_eq_getElem (by omega)
    exact .more (way_reach h i _ hv) (h.next (i + 1) _ u hv e)
theorem ring_reach {ns : List Nd} {x : Int} {w : List Int} (h : Ring ns x w) : Reach ns x x := by
  have h2 := h.two
  have hu : w[w.length - 1]? = some (w[w.length - 1]'(by omega)) := List.getElem?_eq_getElem (by omega)
  have e : w.length - 2 + 1 = w.length - 1 := by omega
  exact .more (way_reach h.way (w.length - 2) _ (by rw [e]; exact hu)) (h.back _ hu)
theorem atI_ix {α : Type} {xs : List α} {i : Int} {k : Nat} {v : α} (h : ixN xs.length i = some k) (e : xs[k]? = some v) : atI xs i = some v := by
  unfold atI
  rw [h]
  exact e
theorem pre_lt {n i : Nat} (hn : 0 < n) (hi : i < n) : pre n i < n := by
  unfold pre
  by_cases z : i = 0
  · rw [if_pos z]
    omega
  · rw [if_neg z]
    omega
theorem ix_pre1 {n j : Nat} (hn : 0 < n) (hj : j < n) : ixN n ((j : Int) - 1) = some (pre n j) := by
  unfold ixN pre
  by_cases z : j = 0
  · rw [if_neg (by omega), if_pos (by omega), if_pos z]
    congr 1
    omega
  · rw [if_pos (by omega), if_pos (by omega), if_neg z]
    congr 1
    omega
theorem ix_pre2 {n j : Nat} (hn : 2 ≤ n) (hj : j < n) : ixN n ((j : Int) - 2) = some (pre n (pre n j)) := by
  unfold ixN pre
  by_cases z : j = 0
  · rw [if_neg (by omega), if_pos (by omega), if_pos z, if_neg (by omega)]
    congr 1
    omega
  · by_cases z1 : j = 1
    · rw [if_neg (by omega), if_pos (by omega), if_neg z, if_pos (by omega)]
      congr 1
      omega
    · rw [if_pos (by omega), if_pos (by omega), if_neg z, if_neg (by omega)]
      congr 1
      omega
theorem lay_t3 (t : T3) : PyData.canLay0 (t3D t) = true := by simp [t3D, PyData.canLay0, PyData.canLayAll0]
theorem lay_t3s : ∀ ts : List T3, PyData.canLayAll0 (ts.map t3D) = true
  | [] => by simp [PyData.canLayAll0]
  | t :: r => by
    have e := lay_t3 t
    simp [PyData.canLayAll0, e, lay_t3s r]
theorem dep_t3s : ∀ ts : List T3, PyData.depthAll (ts.map t3D) ≤ 1
  | [] => by simp [PyData.depthAll]
  | t :: r => by
    have := dep_t3s r
    simp only [List.map_cons, PyData.depthAll, t3D, PyData.depth]
    omega
theorem shaped_t3s (ts : List T3) : SeqAt.shaped (.list (ts.map t3D)) = true := by
  have := dep_t3s ts
  unfold SeqAt.shaped
  rw [Bool.and_eq_true]
  refine ⟨by simp [PyData.canLay0, lay_t3s ts], decide_eq_true ?_⟩
  simp only [PyData.depth]
  omega
theorem shaped_t3 (t : T3) : SeqAt.shaped (t3D t) = true := by
  unfold SeqAt.shaped
  rw [Bool.and_eq_true]
  refine ⟨lay_t3 t, decide_eq_true ?_⟩
  simp [t3D, PyData.depth, PyData.depthAll]
theorem any_t3 {ts : List T3} {t : T3} (h : t ∈ ts) : ((ts.map t3D).any fun z => PyData.eqv z (t3D t)) = true :=
  List.any_eq_true.mpr ⟨t3D t, List.mem_map.mpr ⟨t, h, rfl⟩, SeqAt.eqv_refl _ (lay_t3 t)⟩
/-- equal triples are the same -/
theorem sd_t3 {H : Hp} {x y : V} {t : T3} (h1 : DT H x (t3D t)) (h2 : DT H y (t3D t)) : SD H 2 x y := by
  obtain ⟨a, xs, rfl, ha, t1⟩ := DT.tup_inv h1
  obtain ⟨c, ys, rfl, hc, t2⟩ := DT.tup_inv h2
  have e1 : xs = [t.1, t.2.1, t.2.2].map V.int := DTs.ints_inv (xs := [t.1, t.2.1, t.2.2]) t1
  have e2 : ys = [t.1, t.2.1, t.2.2].map V.int := DTs.ints_inv (xs := [t.1, t.2.1, t.2.2]) t2
  subst e1
  subst e2
  refine .inr ⟨a, c, _, _, rfl, rfl, .inr ⟨ha, hc⟩, rfl, (by show 3 ≤ 1000; decide), fun i u v h1 h2 => ?_⟩
  rw [h1] at h2
  cases h2
  obtain ⟨k, _, rfl⟩ := ints_get h1
  exact .inl ⟨k, rfl, rfl⟩
theorem sd_t3s {H : Hp} {p q : Addr} {xs ys : List V} {ts : List T3} (hp : H p = some (.lst xs)) (hq : H q = some (.lst ys)) (h1 : DTs H xs (ts.map t3D)) (h2 : DTs H ys (ts.map t3D)) (hl : ts.length ≤ 1000) : SD H 3 (.ref p) (.ref q) := by
  have l1 := h1.length
  have l2 := h2.length
  rw [List.length_map] at l1 l2
  refine .inr ⟨p, q, xs, ys, rfl, rfl, .inl ⟨hp, hq⟩, by omega, by omega, fun i u v e1 e2 => ?_⟩
  obtain ⟨d1, g1, m1⟩ := h1.get e1
  obtain ⟨d2, g2, m2⟩ := h2.get e2
  rw [g1] at g2
  cases g2
  rw [List.getElem?_map] at g1
  cases q1 : ts[i]? with
  | none =>
    rw [q1] at g1
    cases g1
  | some t =>
    rw [q1] at g1
    cases (Option.some.inj g1)
    exact sd_t3 m1 m2
/-- a dictionary of the law's nodes stands at d -/
def IsN (H : Hp) (d : Addr) : Prop := ∃ kvs ns, H d = some (.dK kvs) ∧ NdsAt H kvs ns ∧ ∀ n, n ∈ ns → NdOk n
/-- the cells -/
def cellsOf (ns : List Int) : List V := [V.int 4600, V.int ((10 : Int) ^ (37 : Int).toNat + (37 : Int) ^ (25 : Int).toNat)] ++ cutV (ns.map V.int) none (some 6)
theorem cells_int {ns : List Int} {i : Nat} {x : V} (h : (cellsOf ns)[i]? = some x) : ∃ c : Int, x = .int c := by
  have hm : x ∈ cellsOf ns := List.mem_of_getElem? h
  unfold cellsOf at hm
  rcases List.mem_append.mp hm with z | z
  · rcases List.mem_cons.mp z with z | z
    · exact ⟨_, z⟩
    · exact ⟨_, List.mem_singleton.mp z⟩
  · rw [show (6 : Int) = ((6 : Nat) : Int) from rfl, cut_take] at z
    obtain ⟨k, _, e⟩ := List.mem_map.mp (List.mem_of_mem_take z)
    exact ⟨k, e.symm⟩
theorem sqL_same {K : PySem.W.Frag} {H H' : Hp} {a : Addr} {xs : List V} (s : Same H H') (h : SqL K H a xs) : SqL K H' a xs := by
  rcases h with (z | ⟨o, z⟩) | z
  · exact .inl (.inl (s _ _ z))
  · exact .inl (.inr ⟨o, s _ _ z⟩)
  · exact .inr z
section
variable {P : Program} {w : World} {K : PySem.W.Frag} {mg : Str → Option Value} {base : Heap}
def spLaw (K : PySem.W.Frag) : Sp := fun vs H Q _ => ∃ (a : Addr) (ns : List Int), vs = [.ref a] ∧ SqL K H a (ns.map V.int) ∧ ns.length ≤ 63 ∧ ∀ H', Q (.bl true) H'
abbrev nLaw : List Str := ["_law_script", "_law_cell", "_law_well_here", "_law_pool_here", "_law_free", "_law_nodes", "_law_some", "_law_kept", "_law_due", "_law_ringless", "_law_number", "_law_ring", "_law_at"]
theorem scLaw : FnScope nLaw ["_law_script"] (defScope sLaw) := ⟨rfl, rfl, rfl, by decide +kernel, rfl, by decide +kernel, by decide +kernel⟩
/-- what law calls -/
structure LawF (P : Program) (w : World) (K : PySem.W.Frag) (mg : Str → Option Value) (base : Heap) where
  fS : Addr
  fP : Addr
  fL : Addr
  fW : Addr
  fD : Addr
  fB : Addr
  fF : Addr
  fC : Addr
  fR : Addr
  fO : Addr
  dS : FuncData
  dP : FuncData
  dL : FuncData
  dW : FuncData
  dD : FuncData
  dB : FuncData
  dF : FuncData
  dC : FuncData
  dR : FuncData
  dO : FuncData
  S : FnOk P w K mg base CX0 4 fS dS ["_law_found", "_law_due"] (spSame 4)
  P4 : FnOk P w K mg base CX0 4 fP dP ["nodes"] spPiv
  L : FnOk P w K mg base CX0 3 fL dL ["_law_nodes"] spPiv
  W : FnOk P w K mg base CX0 1 fW dW ["_law_cell"] spWell
  D : FnOk P w K mg base CX0 1 fD dD ["_law_well_here", "_law_many"] spDip
  B : FnOk P w K mg base CX0 3 fB dB ["_law_well_here", "_law_many"] spPool
  F : FnOk P w K mg base CX0 4 fF dF ["_law_well_here", "_law_pool_here", "_law_many"] spFree
  C : FnOk P w K mg base CX0 4 fC dC ["_law_well_here", "_law_pool_here", "_law_many"] spCrossed
  R : FnOk P w K mg base CX0 6 fR dR ["nodes", "number"] spRing
  O : FnOk P w K mg base CX0 5 fO dO ["nodes"] spOrder
  kS : PySem.W.keepIn K (.ref fS) = true
  kP : PySem.W.keepIn K (.ref fP) = true
  kL : PySem.W.keepIn K (.ref fL) = true
  kW : PySem.W.keepIn K (.ref fW) = true
  kD : PySem.W.keepIn K (.ref fD) = true
  kB : PySem.W.keepIn K (.ref fB) = true
  kF : PySem.W.keepIn K (.ref fF) = true
  kC : PySem.W.keepIn K (.ref fC) = true
  kR : PySem.W.keepIn K (.ref fR) = true
  kO : PySem.W.keepIn K (.ref fO) = true
  bS : Binds K dS ["_law_found", "_law_due"] []
  bP : Binds K dP ["nodes"] []
  nP : KBn K dP ["nodes"] 0 ["nodes"] (fun _ ws => ws) (fun _ zs => zs)
  bL : Binds K dL ["_law_nodes"] []
  bW : Binds K dW ["_law_cell"] []
  bD : Binds K dD ["_law_well_here", "_law_many"] []
  bB : Binds K dB ["_law_well_here", "_law_many"] []
  bF : Binds K dF ["_law_well_here", "_law_pool_here", "_law_many"] []
  bC : Binds K dC ["_law_well_here", "_law_pool_here", "_law_many"] []
  bR : Binds K dR ["nodes", "number"] []
  bO : Binds K dO ["nodes"] []
  gS : mg "_law_same" = some (.ref fS)
  gP : mg "pivots" = some (.ref fP)
  gL : mg "_law_pivots" = some (.ref fL)
  gW : mg "_law_well" = some (.ref fW)
  gD : mg "_law_dip" = some (.ref fD)
  gB : mg "_law_pool" = some (.ref fB)
  gF : mg "_law_free_nodes" = some (.ref fF)
  gC : mg "_law_crossed" = some (.ref fC)
  gR : mg "ring_through" = some (.ref fR)
  gO : mg "order_of" = some (.ref fO)
  mRepr : mg "repr" = none
  mSorted : mg "sorted" = none
  mMin : mg "min" = none
theorem ok_law {f : Addr} {fd : FuncData} (F : FnP K "law" sLaw f fd) (Z : LawF P w K mg base) : FnOkG P w K mg base f fd ["_law_script"] (spLaw K) := by
  refine okG (k := 6) F scLaw ⟨rfl, by decide, by decide⟩ (fun vs H Q E h => ?_) (fun cdv s H vs Q E hr hg h => ?_)
  · obtain ⟨a, ns, rfl, _⟩ := h
    rfl
  · obtain ⟨a, ns, rfl, hs, hl, q⟩ := h
    have hr1 : Room 1 _ := hr.mono (by decide)
    have hr3 : Room 3 _ := hr.mono (by decide)
    have hr4 : Room 4 _ := hr.mono (by decide)
    have hr5 : Room 5 _ := hr.mono (by decide)
    have hun := hr.un
    have hu20 : (callerA.deeper (envOfC "law" (defScope sLaw) s.heap.objs.size f cdv)).units + 20 < cLine := by omega
    have hu65 : (callerA.deeper (envOfC "law" (defScope sLaw) s.heap.objs.size f cdv)).units + 65 < cLine := by omega
    refine ⟨_, pss_cons (ps_if (pt_not (pt_val (pe_call Z.S hr4 (by rfl) Z.gS Z.kS Z.bS .nil pass0 (pa_cons (pe_call Z.P4 hr4 (by rfl) Z.gP Z.kP Z.bP .nil pass0 (pa_cons pe_dnewK pa_nil)) (pa_cons (pe_lst pa_nil) pa_nil))))) (pss_one (ps_ret pe_bl)) pss_nil)
      (pss_cons (ps_for PassesOwn.never rfl (pi_list (pe_op op_cat (pe_lst (pa_cons pe_int (pa_cons (pe_op op_add (pe_op op_pow pe_int pe_int) (pe_op op_pow pe_int pe_int)) pa_nil))) (pe_slice sl_list (pv 0) po_none (po_some pe_int)))) (pg_name (i := 1) scLaw.nd rfl (.inl rfl))
        (pss_cons (ps_set (i := 2) scLaw.nd rfl (.inl rfl) (pe_call Z.W hr1 (by rfl) Z.gW Z.kW Z.bW .nil pass0 (pa_cons (pv 1) pa_nil)))
        (pss_cons (ps_set (i := 3) scLaw.nd rfl (.inl rfl) (pe_call Z.B hr3 (by rfl) Z.gB Z.kB Z.bB .nil pass0 (pa_cons (pv 2) (pa_cons (pe_op op_add pe_int (pe_call Z.D hr1 (by rfl) Z.gD Z.kD Z.bD .nil pass0 (pa_cons (pv 2) (pa_cons pe_int pa_nil)))) pa_nil))))
        (pss_cons (ps_set (i := 4) scLaw.nd rfl (.inl rfl) (pe_call Z.F hr4 (by rfl) Z.gF Z.kF Z.bF .nil pass0 (pa_cons (pv 2) (pa_cons (pv 3) (pa_cons (pe_op op_add pe_int (pe_call Z.D hr1 (by rfl) Z.gD Z.kD Z.bD .nil pass0 (pa_cons (pv 2) (pa_cons pe_int pa_nil)))) pa_nil)))))
        (pss_cons (ps_set (i := 5) scLaw.nd rfl (.inl rfl) (pe_call Z.C hr4 (by rfl) Z.gC Z.kC Z.bC .nil pass0 (pa_cons (pv 2) (pa_cons (pv 3) (pa_cons (pe_op op_add pe_int (pe_call Z.D hr1 (by rfl) Z.gD Z.kD Z.bD .nil pass0 (pa_cons (pv 2) (pa_cons pe_int pa_nil)))) pa_nil)))))
        (pss_cons (ps_for PassesOwn.never rfl (pi_list (pe_lst (pa_cons (pv 4) (pa_cons (pv 5) pa_nil)))) (pg_name (i := 6) scLaw.nd rfl (.inl rfl))
          (pss_cons (ps_par (i := 7) (j := 8) rfl scLaw.nd rfl rfl (by decide) rfl rfl (pa_cons (pe_callB (call_reprN hg hu20) (by rfl) Z.mRepr (by decide +kernel) (pa_cons (pv 6) pa_nil)) (pa_cons (pe_call Z.L hr3 (by rfl) Z.gL Z.kL Z.bL .nil pass0 (pa_cons (pv 6) pa_nil)) pa_nil)) (by rfl))
          (pss_one (ps_if (PW.pt (pw_or (pt_not (pt_val (pe_call Z.S hr4 (by rfl) Z.gS Z.kS Z.bS .nil pass0
              (pa_cons (pe_lst (pa_cons (pe_call Z.P4 hr4 (by rfl) Z.gP Z.kP Z.bP .nil pass0 (pa_cons (pv 6) pa_nil)) (pa_cons (pe_callK0 Z.P4 hr4 (by rfl) Z.gP Z.kP Z.nP pass0 (pk_cons (pv 6) pk_nil)) pa_nil)))
              (pa_cons (pe_lst (pa_cons (pv 8) (pa_cons (pv 8) pa_nil))) pa_nil)))))
            (pw_or1 (pt_cmpR op_ne (pe_callB (call_reprN hg hu20) (by rfl) Z.mRepr (by decide +kernel) (pa_cons (pv 6) pa_nil)) (pv 7) (nomark _))))) (pss_one (ps_ret pe_bl)) pss_nil))))
        (pss_cons (ps_par (i := 8) (j := 9) rfl scLaw.nd rfl rfl (by decide) rfl rfl (pa_cons (pe_call Z.L hr3 (by rfl) Z.gL Z.kL Z.bL .nil pass0 (pa_cons (pv 5) pa_nil)) (pa_cons pe_bl pa_nil)) (by rfl))
        (pss_cons (ps_for PassesOwn.never rfl (pi_list (pe_callB (call_sortedDI rfl) (by rfl) Z.mSorted (by decide +kernel) (pa_cons (pv 5) pa_nil))) (pg_name (i := 10) scLaw.nd rfl (.inl rfl))
          (pss_cons (ps_set (i := 11) scLaw.nd rfl (.inl rfl) (pe_call Z.R hr (by rfl) Z.gR Z.kR Z.bR .nil pass0 (pa_cons (pv 5) (pa_cons (pv 10) pa_nil))))
          (pss_one (ps_if (pt_cmpR op_notN (pv 11) pe_non (nomark _))
            (pss_cons (ps_set (i := 9) scLaw.nd rfl (.inl rfl) pe_bl)
            (pss_cons (ps_set (i := 12) scLaw.nd rfl (.inl rfl) (pe_bmT PySem.F.plainAttrs_tuple PySem.F.slot_tuple_index PySem.F.type_tuple_index mt_tup_indexI (pv 11) (pa_cons (pe_callB (cr_minT rfl) (by rfl) Z.mMin (by decide +kernel) (pa_cons (pv 11) pa_nil)) pa_nil)))
            (pss_one (ps_if (pt_cmpR (op_notInD hu65) (pe_tup (pa_cons (pe_ix ix_tup (pv 11) (pe_op op_sub (pv 12) pe_int) (fun _ _ => rfl)) (pa_cons (pe_ix ix_tup (pv 11) (pe_op op_sub (pv 12) pe_int) (fun _ _ => rfl)) (pa_cons (pe_ix ix_tup (pv 11) (pv 12) (fun _ _ => rfl)) pa_nil)))) (pv 8) (by rfl))
              (pss_one (ps_ret pe_bl)) pss_nil)))) pss_nil))))
        (pss_one (ps_if (PW.pt (pw_or (PW.pt (pw_and (pt_cmpR (op_eqD hr.units) (pv 8) (pe_lst pa_nil) (nomark _)) (pw_and1 (pt_not (pt_val (pv 9))))))
            (pw_or1 (pt_cmpR op_eq (pe_cmpR op_isN (pe_call Z.O hr5 (by rfl) Z.gO Z.kO Z.bO .nil pass0 (pa_cons (pv 5) pa_nil)) pe_non (nomark _)) (pv 9) (nomark _))))) (pss_one (ps_ret pe_bl)) pss_nil))))))))))
      (pss_one (ps_ret pe_bl))), ?_⟩
    -- pivots({})
    intro e0 ne0
    have se0 := same_upd (o := .dK []) ne0
    refine ⟨e0, [], [], rfl, upd_same, ⟨.nil, List.nodup_nil, Nat.zero_le _⟩, fun H1 p1 xs1 sm1 np1 hp1 hx1 => ⟨Nat.zero_le _, fun q1 nq1 => ?_⟩⟩
    have sq1 := same_upd (o := .lst []) nq1
    have ex1 : xs1 = [] := List.eq_nil_of_length_eq_zero (by rw [hx1.length, List.length_map, srt3_len]; rfl)
    subst ex1
    refine ⟨.ref p1, .ref q1, rfl, .inr ⟨p1, q1, [], [], rfl, rfl, .inl ⟨sq1 _ _ hp1, upd_same⟩, rfl, Nat.zero_le _, fun i u v e => by simp at e⟩, fun H2 sm2 => ⟨true, rfl, ?_⟩⟩
    refine iteF ?_
    have s02 : Same H H2 := se0.trans (sm1.trans (sq1.trans sm2))
    have hs2 := sqL_same s02 hs
    -- the cells
    refine ⟨_, _, rfl, rfl, ⟨by decide, by decide, by decide⟩, _, _, rfl, rfl, ⟨by decide, by decide, by decide⟩, ?_⟩
    refine ⟨_, _, rfl, rfl, (by show 2 ≤ sizeLine; decide), fun z0 nz0 => ⟨_, rfl, 6, rfl, a, _, rfl, sqL_same (same_upd nz0) hs2, fun z1 nz1 => ?_⟩⟩
    refine ⟨z0, z1, _, _, rfl, rfl, same_upd nz1 _ _ upd_same, upd_same, ?_, fun L nL => ⟨L, rfl, ⟨_, SqL.of upd_same⟩, ?_⟩⟩
    · have e := cutV_length (ns.map V.int) none (some (6 : Int))
      rw [List.length_map] at e
      exact short_ok (by show 2 + (cutV (ns.map V.int) none (some (6 : Int))).length ≤ 1000; omega)
    refine for_list (K := K) (a := L) (xs := cellsOf ns) (fun i σ H' => ∃ o1 o2 o3 o4 o5 o6 o7 o8 o9 o10 o11 o12, σ = [some (.ref a), o1, o2, o3, o4, o5, o6, o7, o8, o9, o10, o11, o12] ∧ H' L = some (.lst (cellsOf ns)))
      ⟨none, none, none, none, none, none, none, none, none, none, none, none, rfl, upd_same⟩ (fun i σ H' _ pr => ?_) (fun i x σ H1 hx pr => ?_) (fun σ H' pr => q H')
    · obtain ⟨_, _, _, _, _, _, _, _, _, _, _, _, _, hL⟩ := pr
      exact SqL.of hL
    · obtain ⟨o1, o2, o3, o4, o5, o6, o7, o8, o9, o10, o11, o12, rfl, hL⟩ := pr
      obtain ⟨c, rfl⟩ := cells_int hx
      -- well
      refine ⟨_, rfl, c, rfl, fun H2 W sm2 nW hW => ?_⟩
      have hL2 := sm2 _ _ hL
      have nLW : L ≠ W := ne_of_none hL nW
      -- pool
      refine ⟨_, rfl, _, rfl, W, 0, 5, rfl, hW, by decide, by decide, by decide, fun H3 d3 k3 w3 a3 b3 => ⟨_, _, rfl, rfl, W, _, _, rfl, w3, by decide, by omega, by omega, fun H4 pl ks k4 w4 npl hpl kn kl kb => ?_⟩⟩
      have nplW : pl ≠ W := (w3.ne npl).symm
      -- free
      refine ⟨_, rfl, _, rfl, _, rfl, W, _, 8, rfl, w4, by decide, by decide, by decide, fun H5 d5 k5 w5 a5 b5 => ⟨_, _, rfl, rfl, W, _, pl, ks, _, rfl, w5, by decide, k5 _ _ hpl nplW, nplW, kn, kl, kb, by omega, by omega, fun H6 D1 kvs1 ns1 k6 w6 nD1 hD1 N1 ok1 => ?_⟩⟩
      have nD1W : D1 ≠ W := (w5.ne nD1).symm
      have hpl6 := k6 _ _ (k5 _ _ hpl nplW) nplW
      -- crossed
      refine ⟨_, rfl, _, rfl, _, rfl, W, _, 8, rfl, w6, by decide, by decide, by decide, fun H7 d7 k7 w7 a7 b7 => ⟨_, _, rfl, rfl, W, _, pl, ks, _, rfl, w7, by decide, k7 _ _ hpl6 nplW, nplW, kn, kl, kb, by omega, by omega, fun H8 D2 kvs2 ns2 k8 w8 nD2 hD2 N2 cr2 ok2 => ?_⟩⟩
      have hD18 := k8 _ _ (k7 _ _ hD1 nD1W) nD1W
      have N18 := N1.mono ((k7.tups w6).trans (k8.tups w7))
      have kk : KeepW W H2 H8 := k3.trans (k4.trans (k5.trans (k6.trans (k7.trans k8))))
      have hL8 := kk _ _ hL2 nLW
      -- for some in [free, nodes]
      refine ⟨_, rfl, _, rfl, (by show 2 ≤ sizeLine; decide), fun M nM => ⟨M, rfl, ⟨_, SqL.of upd_same⟩, for_list (K := K) (a := M) (xs := [.ref D1, .ref D2]) (fun j σ' H' => ∃ o6 o7 o8, σ' = [some (.ref a), some (.int c), some (.ref W), some (.ref pl), some (.ref D1), some (.ref D2), o6, o7, o8, o9, o10, o11, o12] ∧ Same (upd H8 M (.lst [.ref D1, .ref D2])) H')
        ⟨o6, o7, o8, rfl, Same.refl _⟩ (fun j σ' H' _ ⟨_, _, _, _, sm⟩ => SqL.of (sm _ _ upd_same)) (fun j x σ' H' hx pr => ?_) (fun σ' H' pr => ?_)⟩⟩
      · obtain ⟨o6, o7, o8, rfl, sm⟩ := pr
        have hin : ∃ (d : Addr) (kvs : List (Key × V)) (nd : List Nd), x = .ref d ∧ H8 d = some (.dK kvs) ∧ NdsAt H8 kvs nd ∧ ∀ n, n ∈ nd → NdOk n := by
          rcases List.mem_cons.mp (List.mem_of_getElem? hx) with z | z
          · exact ⟨D1, kvs1, ns1, z, hD18, N18, ok1⟩
          · exact ⟨D2, kvs2, ns2, List.mem_singleton.mp z, hD2, N2, ok2⟩
        obtain ⟨d, kvs, nd, rfl, hd, Nn, okn⟩ := hin
        have sm' : Same H8 H' := (same_upd nM).trans sm
        have hd1 := sm' _ _ hd
        have Nn1 := Nn.mono (Same.tups sm')
        -- kept, due
        refine ⟨_, rfl, d, kvs, nd, rfl, hd1, Nn1, okn, _, rfl, d, kvs, nd, rfl, hd1, Nn1, fun H9 du xs9 sm9 ndu hdu hx9 => ⟨_, _, rfl, ?_⟩⟩
        have hd9 := sm9 _ _ hd1
        have N9 := Nn1.mono (Same.tups sm9)
        refine ⟨_, rfl, d, kvs, nd, rfl, hd9, N9, fun Ha pa xa sma npa hpa hxa => ⟨_, rfl, rfl, d, kvs, nd, rfl, sma _ _ hd9, N9.mono (Same.tups sma), fun Hb pb xb smb npb hpb hxb => ⟨(by show 2 ≤ sizeLine; decide), fun La nLa => ⟨_, rfl, _, rfl, (by show 2 ≤ sizeLine; decide), fun Lb nLb => ?_⟩⟩⟩⟩
        have sla := same_upd (o := .lst [V.ref pa, V.ref pb]) nLa
        have slb := same_upd (o := .lst [V.ref du, V.ref du]) nLb
        have sb := sla.trans slb
        have sa := smb.trans sb
        have s9 := sma.trans sa
        have lenF : (srt3 (lpF nd nd)).length ≤ 1000 := by
          have e1 := lpF_len N9.few nd
          have e2 := N9.few
          rw [srt3_len]
          omega
        refine ⟨.ref La, .ref Lb, rfl, .inr ⟨La, Lb, _, _, rfl, rfl, .inl ⟨slb _ _ upd_same, upd_same⟩, rfl, (by show 2 ≤ 1000; decide), fun i u v e1 e2 => ?_⟩, fun Hc smc => ⟨true, rfl, ?_⟩⟩
        · have hv : v = .ref du := by
            rcases List.mem_cons.mp (List.mem_of_getElem? e2) with z | z
            · exact z
            · exact List.mem_singleton.mp z
          rw [hv]
          rcases List.mem_cons.mp (List.mem_of_getElem? e1) with z | z
          · rw [z]
            exact sd_t3s (sa _ _ hpa) (s9 _ _ hdu) (hxa.mono (Same.tups sa)) (hx9.mono (Same.tups s9)) lenF
          · rw [List.mem_singleton.mp z]
            exact sd_t3s (sb _ _ hpb) (s9 _ _ hdu) (hxb.mono (Same.tups sb)) (hx9.mono (Same.tups s9)) lenF
        · have sc := s9.trans smc
          refine iteF ⟨_, rfl, d, kvs, nd, rfl, sc _ _ hd9, N9.mono (Same.tups sc), okn, _, rfl, rfl, _, rfl, ?_⟩
          rw [decide_eq_true rfl]
          exact iteF ⟨_, _, _, rfl, sm.trans (sm9.trans sc)⟩
      · obtain ⟨o6, o7, o8, rfl, sm⟩ := pr
        have sm' : Same H8 H' := (same_upd nM).trans sm
        have hd1 := sm' _ _ hD2
        have Nn1 := N2.mono (Same.tups sm')
        have hL1 := sm' _ _ hL8
        -- due, ringless
        refine ⟨_, rfl, D2, kvs2, ns2, rfl, hd1, Nn1, fun H9 du xs9 sm9 ndu hdu hx9 => ⟨_, _, rfl, ?_⟩⟩
        have hd9 := sm9 _ _ hd1
        have N9 := Nn1.mono (Same.tups sm9)
        have hL9 := sm9 _ _ hL1
        -- for number in sorted(nodes)
        refine ⟨_, rfl, D2, kvs2, ns2.map Nd.num, rfl, .inl hd9, paired_keys N9.p, (by rw [List.length_map]; have := N9.few; omega), fun ys p hp hsorted np => ⟨p, rfl, ⟨_, SqL.of upd_same⟩, for_list (K := K) (a := p) (xs := ys.map V.int)
          (fun j σ' Hj => ∃ b o10 o11 o12, σ' = [some (.ref a), some (.int c), some (.ref W), some (.ref pl), some (.ref D1), some (.ref D2), o6, o7, some (.ref du), some (.bl b), o10, o11, o12] ∧ Same (upd H9 p (.lst (ys.map V.int))) Hj ∧ (b = true → ∀ y, y ∈ ys.take j → ¬ Reach ns2 y y) ∧ (b = false → lpF ns2 ns2 ≠ [] ∧ ∃ y, Reach ns2 y y))
          ⟨true, o10, o11, o12, rfl, Same.refl _, (fun _ y hy => by rw [List.take_zero] at hy; cases hy), (fun z => by cases z)⟩ (fun j σ' Hj _ ⟨_, _, _, _, _, smj, _, _⟩ => SqL.of (smj _ _ upd_same)) (fun j x σ' Hj hx pr => ?_) (fun σ' Hj pr => ?_)⟩⟩
        · obtain ⟨b, o10, o11, o12, rfl, smj, hb1, hb2⟩ := pr
          obtain ⟨y, hy, rfl⟩ := ints_get hx
          obtain ⟨n, hn, rfl⟩ := node_there (hp.mem_iff.mp (List.mem_of_getElem? hy))
          have s9j : Same H9 Hj := (same_upd np).trans smj
          refine ⟨_, rfl, _, rfl, D2, kvs2, ns2, n, rfl, .inl (s9j _ _ hd9), N9.mono (Same.tups s9j), hn, fun Hr smr nr => ?_, fun Hr rp ob r smr hrp hob R rl => ?_⟩
          · refine ⟨_, rfl, rfl, _, rfl, ?_⟩
            rw [decide_eq_true rfl]
            refine iteF ⟨b, _, _, _, rfl, smj.trans smr, fun z y hy2 => ?_, hb2⟩
            rw [take_snoc hy] at hy2
            rcases List.mem_append.mp hy2 with q1 | q1
            · exact hb1 z y q1
            · rw [List.mem_singleton.mp q1]
              exact nr
          · refine ⟨_, rfl, rfl, _, rfl, ?_⟩
            rw [decide_eq_false (by intro z; cases z)]
            have h2 := R.two
            have hne : r ≠ [] := by
              intro z
              rw [z] at h2
              simp at h2
            refine iteT ⟨_, rfl, ⟨rp, ob, _, rfl, hrp, hob⟩, _, rfl, rp, r, rfl, SqT.frz hrp, hne, fun m hm least => ⟨rp, r, m, rfl, rfl, SqT.frz hrp, hm, fun ix hix => ?_⟩⟩
            have hil := (List.getElem?_eq_some_iff.mp hix).1
            have hp1 := pre_lt (by omega) hil
            have hp2 := pre_lt (by omega) hp1
            have hB : r[pre r.length ix]? = some (r[pre r.length ix]'hp1) := List.getElem?_eq_getElem hp1
            have hA : r[pre r.length (pre r.length ix)]? = some (r[pre r.length (pre r.length ix)]'hp2) := List.getElem?_eq_getElem hp2
            have mem := ring_pivot N9.nd cr2 R hix hB hA least
            generalize r[pre r.length (pre r.length ix)]'hp2 = A at hA mem
            generalize r[pre r.length ix]'hp1 = B at hB mem
            have at2 : atI (r.map V.int) ((ix : Int) - 2) = some (.int A) := atI_ix (by rw [List.length_map]; exact ix_pre2 h2 hil) (by rw [List.getElem?_map, hA]; rfl)
            have at1 : atI (r.map V.int) ((ix : Int) - 1) = some (.int B) := atI_ix (by rw [List.length_map]; exact ix_pre1 (by omega) hil) (by rw [List.getElem?_map, hB]; rfl)
            have at0 : atI (r.map V.int) (ix : Int) = some (.int m) := atI_nat (by rw [List.getElem?_map, hix]; rfl)
            have s9r := s9j.trans smr
            refine ⟨_, rfl, _, rfl, _, _, rfl, rfl, rp, _, _, .int A, rfl, rfl, SqT.frz hrp, at2, _, rfl, _, rfl, _, _, rfl, rfl, rp, _, _, .int B, rfl, rfl, SqT.frz hrp, at1, _, rfl, _, rfl, rp, _, _, .int m, rfl, rfl, SqT.frz hrp, at0, (by show 3 ≤ sizeLine; decide), fun t nt => ?_⟩
            have st := same_upd (o := .tup [V.int A, V.int B, V.int m]) nt
            have s9t := s9r.trans st
            refine ⟨_, rfl, t3D (A, B, m), _, .tup (SqT.of upd_same) (ints_dp [A, B, m]), .lst (SqL.of (s9t _ _ hdu)) (DTs.dp (hx9.mono (Same.tups s9t))), shaped_t3 _, shaped_t3s _, _, rfl, ?_⟩
            rw [any_t3 (srt3_mem.mpr mem)]
            refine iteF ⟨false, _, _, _, rfl, smj.trans (smr.trans st), (fun z => by cases z), fun _ => ⟨?_, n.num, ring_reach R⟩⟩
            intro z
            rw [z] at mem
            cases mem
        · obtain ⟨b, o10, o11, o12, rfl, smj, hb1, hb2⟩ := pr
          have s9j : Same H9 Hj := (same_upd np).trans smj
          refine ⟨_, rfl, Nat.zero_le _, fun e0 ne0 => ?_⟩
          have se := same_upd (o := .lst []) ne0
          have s9e := s9j.trans se
          refine ⟨.list ((srt3 (lpF ns2 ns2)).map t3D), .list [], .lst (SqL.of (s9e _ _ hdu)) (DTs.dp (hx9.mono (Same.tups s9e))), .lst (SqL.of upd_same) .nil, shaped_t3s _, shaped_nil, _, rfl, ?_⟩
          rw [eqv_nil]
          have hL2 := s9e _ _ hL9
          have hd2 := s9e _ _ hd9
          have N3 := N9.mono (Same.tups s9e)
          cases b with
          | true =>
            have none_reach : ¬ ∃ y, Reach ns2 y y := fun ⟨y, hy⟩ => hb1 rfl y (by
              rw [List.length_map, List.take_length]
              exact hp.mem_iff.mpr (reach_mem hy)) hy
            refine ite2 (fun _ => ⟨_, rfl, true, rfl, iteF ?_⟩) (fun _ => iteF ?_)
            all_goals
              refine ⟨_, rfl, D2, kvs2, ns2, rfl, .inl hd2, N3, fun Ho smo ex => absurd ex none_reach, fun Ho po smo _ => ⟨rfl, _, rfl, rfl, _, rfl, ?_⟩⟩
              rw [decide_eq_false (by intro z; cases z)]
              exact iteF ⟨_, _, _, _, _, _, _, _, _, _, _, _, rfl, smo _ _ hL2⟩
          | false =>
            obtain ⟨hne, hre⟩ := hb2 rfl
            have ee : ((srt3 (lpF ns2 ns2)).map t3D).isEmpty = false := by
              cases q1 : (srt3 (lpF ns2 ns2)).map t3D with
              | nil =>
                have e1 := congrArg List.length q1
                rw [List.length_map, srt3_len, List.length_nil] at e1
                exact absurd (List.eq_nil_of_length_eq_zero e1) hne
              | cons _ _ => rfl
            rw [ee]
            refine iteF (iteF ⟨_, rfl, D2, kvs2, ns2, rfl, .inl hd2, N3, fun Ho smo _ => ⟨rfl, _, rfl, rfl, _, rfl, ?_⟩, fun Ho po smo nex => absurd hre nex⟩)
            rw [decide_eq_true rfl, decide_eq_false (by intro z; cases z)]
            exact iteF ⟨_, _, _, _, _, _, _, _, _, _, _, _, rfl, smo _ _ hL2⟩
end
end K46

set_option Elab.async false
set_option linter.all false
set_option maxRecDepth 100000
set_option maxHeartbeats 0
/-! K46Y: the head; each def's facts, by names (this text is printed by gen_head.py). -/
namespace K46
open PySem PySem.Spec PyProof.Rows L2
def ddsHas : He.DefD := ⟨("has_key", none), "has_key", "has_key", defArgs sHas, defBody sHas, defScope sHas, [], []⟩
def ddsRead : He.DefD := ⟨("read_of", none), "read_of", "read_of", defArgs sRead, defBody sRead, defScope sRead, [], []⟩
def ddsFW : He.DefD := ⟨("follows_writes", none), "follows_writes", "follows_writes", defArgs sFW, defBody sFW, defScope sFW, [], []⟩
def ddsFR : He.DefD := ⟨("follows_read", none), "follows_read", "follows_read", defArgs sFR, defBody sFR, defScope sFR, [], []⟩
def ddsLeads : He.DefD := ⟨("leads", none), "leads", "leads", defArgs sLeads, defBody sLeads, defScope sLeads, [], []⟩
def ddsBehind : He.DefD := ⟨("behind", none), "behind", "behind", defArgs sBehind, defBody sBehind, defScope sBehind, [], []⟩
def ddsRing : He.DefD := ⟨("ring_through", none), "ring_through", "ring_through", defArgs sRing, defBody sRing, defScope sRing, [], []⟩
def ddsOrder : He.DefD := ⟨("order_of", none), "order_of", "order_of", defArgs sOrder, defBody sOrder, defScope sOrder, [], []⟩
def ddsPivots : He.DefD := ⟨("pivots", none), "pivots", "pivots", defArgs sPivots, defBody sPivots, defScope sPivots, [], []⟩
def ddsWell : He.DefD := ⟨("_law_well", none), "_law_well", "_law_well", defArgs sWell, defBody sWell, defScope sWell, [], []⟩
def ddsDip : He.DefD := ⟨("_law_dip", none), "_law_dip", "_law_dip", defArgs sDip, defBody sDip, defScope sDip, [], []⟩
def ddsSame : He.DefD := ⟨("_law_same", none), "_law_same", "_law_same", defArgs sSame, defBody sSame, defScope sSame, [], []⟩
def ddsWord : He.DefD := ⟨("_law_word", none), "_law_word", "_law_word", defArgs sWord, defBody sWord, defScope sWord, [], []⟩
def ddsPool : He.DefD := ⟨("_law_pool", none), "_law_pool", "_law_pool", defArgs sPool, defBody sPool, defScope sPool, [], []⟩
def ddsLHas : He.DefD := ⟨("_law_has", none), "_law_has", "_law_has", defArgs sLHas, defBody sLHas, defScope sLHas, [], []⟩
def ddsGiven : He.DefD := ⟨("_law_given", none), "_law_given", "_law_given", defArgs sGiven, defBody sGiven, defScope sGiven, [], []⟩
def ddsNote : He.DefD := ⟨("_law_note", none), "_law_note", "_law_note", defArgs sNote, defBody sNote, defScope sNote, [], []⟩
def ddsNumbers : He.DefD := ⟨("_law_numbers", none), "_law_numbers", "_law_numbers", defArgs sNumbers, defBody sNumbers, defScope sNumbers, [], []⟩
def ddsFree : He.DefD := ⟨("_law_free_nodes", none), "_law_free_nodes", "_law_free_nodes", defArgs sFree, defBody sFree, defScope sFree, [], []⟩
def ddsCrossed : He.DefD := ⟨("_law_crossed", none), "_law_crossed", "_law_crossed", defArgs sCrossed, defBody sCrossed, defScope sCrossed, [], []⟩
def ddsMisses : He.DefD := ⟨("_law_misses", none), "_law_misses", "_law_misses", defArgs sMisses, defBody sMisses, defScope sMisses, [], []⟩
def ddsLPiv : He.DefD := ⟨("_law_pivots", none), "_law_pivots", "_law_pivots", defArgs sLPiv, defBody sLPiv, defScope sLPiv, [], []⟩
def ddsLaw : He.DefD := ⟨("law", none), "law", "law", defArgs sLaw, defBody sLaw, defScope sLaw, [], []⟩
def headFn : List He.DefD := [ddsHas, ddsRead, ddsFW, ddsFR, ddsLeads, ddsBehind, ddsRing, ddsOrder, ddsPivots, ddsWell, ddsDip, ddsSame, ddsWord, ddsPool, ddsLHas, ddsGiven, ddsNote, ddsNumbers, ddsFree, ddsCrossed, ddsMisses, ddsLPiv, ddsLaw]
def headFa : List He.Fa := [.glo "has_key", .glo "read_of", .glo "follows_writes", .glo "follows_read", .glo "leads", .glo "behind", .glo "ring_through", .glo "order_of", .glo "pivots", .glo "_law_well", .glo "_law_dip", .glo "_law_same", .glo "_law_word", .glo "_law_pool", .glo "_law_has", .glo "_law_given", .glo "_law_note", .glo "_law_numbers", .glo "_law_free_nodes", .glo "_law_crossed", .glo "_law_misses", .glo "_law_pivots", .glo "law", .free "int", .free "list", .free "tuple", .free "sorted", .free "len", .free "range", .free "max", .free "set", .free "isinstance", .free "bool", .free "str", .free "all", .free "any", .free "repr", .free "min"]
abbrev headR : PySem.W.OpenRow := PySem.W.OpenLaw.row PySem.Challenge.rw_heldpasts_k46_whole_two_in_a_row
abbrev headHk : PySem.W.Hook := He.hookD 4 headFa headFn
def headOb (s : PySem.W.SharedT) : He.AlD := He.obsDG 4 headFa headFn (HandSHeadRun.getT s)
theorem head_ob (s : PySem.W.SharedT) : headOb s = headHk.obs s.abs := He.obsDG_eq (HandSHeadRun.getT_eq s)
def headLoose : List Str := ["has_key", "read_of", "follows_writes", "follows_read", "leads", "behind", "ring_through", "order_of", "pivots", "kept_nodes", "_law_well", "_law_dip", "_law_same", "_law_word", "_law_pool", "_law_has", "_law_given", "_law_note", "_law_numbers", "_law_free_nodes", "_law_leads", "_law_crossed", "_law_misses", "_law_pivots"]
theorem head_run (w : World) : HandSHeadRun.RunEq headR (PySem.W.view headR.prog [25]) headHk headOb 4000 headLoose w := by
  intro os
  kernel_rfl
theorem head_facts {P : Program} {w : World} {K : PySem.W.Frag} {h : Heap} {mg : Str → Option Value} {f : Addr} (X : K.In h) (G : h.Ns mainGlobals mg) (hfa : mg ("law" : Str) = some (.ref f)) (c : He.SaysD headFa headFn K) :
    ∃ fd : FuncData, (∀ (s : Shared) (v : Value), BindsTo s fd ⟨[v], []⟩ [("_law_script", v)]) ∧ ∀ base : Heap, K.In base → base.Ns mainGlobals mg → FnOkG P w K mg base f fd ["_law_script"] (spLaw K) := by
  obtain ⟨fsHas, FsHas⟩ := c.def_ 0 (d := ddsHas) rfl
  obtain ⟨fsRead, FsRead⟩ := c.def_ 1 (d := ddsRead) rfl
  obtain ⟨fsFW, FsFW⟩ := c.def_ 2 (d := ddsFW) rfl
  obtain ⟨fsFR, FsFR⟩ := c.def_ 3 (d := ddsFR) rfl
  obtain ⟨fsLeads, FsLeads⟩ := c.def_ 4 (d := ddsLeads) rfl
  obtain ⟨fsBehind, FsBehind⟩ := c.def_ 5 (d := ddsBehind) rfl
  obtain ⟨fsRing, FsRing⟩ := c.def_ 6 (d := ddsRing) rfl
  obtain ⟨fsOrder, FsOrder⟩ := c.def_ 7 (d := ddsOrder) rfl
  obtain ⟨fsPivots, FsPivots⟩ := c.def_ 8 (d := ddsPivots) rfl
  obtain ⟨fsWell, FsWell⟩ := c.def_ 9 (d := ddsWell) rfl
  obtain ⟨fsDip, FsDip⟩ := c.def_ 10 (d := ddsDip) rfl
  obtain ⟨fsSame, FsSame⟩ := c.def_ 11 (d := ddsSame) rfl
  obtain ⟨fsWord, FsWord⟩ := c.def_ 12 (d := ddsWord) rfl
  obtain ⟨fsPool, FsPool⟩ := c.def_ 13 (d := ddsPool) rfl
  obtain ⟨fsLHas, FsLHas⟩ := c.def_ 14 (d := ddsLHas) rfl
  obtain ⟨fsGiven, FsGiven⟩ := c.def_ 15 (d := ddsGiven) rfl
  obtain ⟨fsNote, FsNote⟩ := c.def_ 16 (d := ddsNote) rfl
  obtain ⟨fsNumbers, FsNumbers⟩ := c.def_ 17 (d := ddsNumbers) rfl
  obtain ⟨fsFree, FsFree⟩ := c.def_ 18 (d := ddsFree) rfl
  obtain ⟨fsCrossed, FsCrossed⟩ := c.def_ 19 (d := ddsCrossed) rfl
  obtain ⟨fsMisses, FsMisses⟩ := c.def_ 20 (d := ddsMisses) rfl
  obtain ⟨fsLPiv, FsLPiv⟩ := c.def_ 21 (d := ddsLPiv) rfl
  obtain ⟨fsLaw, FsLaw⟩ := c.def_ 22 (d := ddsLaw) rfl
  have gsHas := He.glo_ok X G (c.fact 0 (f := .glo "has_key") rfl)
  have bsHas : Binds K fsHas ["note", "key"] [] := FsHas.bindsN fun _ _ _ _ _ _ us hl => match us, hl with | [_, _], _ => rfl
  have gsRead := He.glo_ok X G (c.fact 1 (f := .glo "read_of") rfl)
  have bsRead : Binds K fsRead ["node", "other"] [] := FsRead.bindsN fun _ _ _ _ _ _ us hl => match us, hl with | [_, _], _ => rfl
  have gsFW := He.glo_ok X G (c.fact 2 (f := .glo "follows_writes") rfl)
  have bsFW : Binds K fsFW ["one", "other"] [] := FsFW.bindsN fun _ _ _ _ _ _ us hl => match us, hl with | [_, _], _ => rfl
  have gsFR := He.glo_ok X G (c.fact 3 (f := .glo "follows_read") rfl)
  have bsFR : Binds K fsFR ["one", "other"] [] := FsFR.bindsN fun _ _ _ _ _ _ us hl => match us, hl with | [_, _], _ => rfl
  have gsLeads := He.glo_ok X G (c.fact 4 (f := .glo "leads") rfl)
  have bsLeads : Binds K fsLeads ["one", "other"] [] := FsLeads.bindsN fun _ _ _ _ _ _ us hl => match us, hl with | [_, _], _ => rfl
  have gsBehind := He.glo_ok X G (c.fact 5 (f := .glo "behind") rfl)
  have bsBehind : Binds K fsBehind ["nodes", "number"] [] := FsBehind.bindsN fun _ _ _ _ _ _ us hl => match us, hl with | [_, _], _ => rfl
  have gsRing := He.glo_ok X G (c.fact 6 (f := .glo "ring_through") rfl)
  have bsRing : Binds K fsRing ["nodes", "number"] [] := FsRing.bindsN fun _ _ _ _ _ _ us hl => match us, hl with | [_, _], _ => rfl
  have gsOrder := He.glo_ok X G (c.fact 7 (f := .glo "order_of") rfl)
  have bsOrder : Binds K fsOrder ["nodes"] [] := FsOrder.bindsN fun _ _ _ _ _ _ us hl => match us, hl with | [_], _ => rfl
  have gsPivots := He.glo_ok X G (c.fact 8 (f := .glo "pivots") rfl)
  have bsPivots : Binds K fsPivots ["nodes"] [] := FsPivots.bindsN fun _ _ _ _ _ _ us hl => match us, hl with | [_], _ => rfl
  have gsWell := He.glo_ok X G (c.fact 9 (f := .glo "_law_well") rfl)
  have bsWell : Binds K fsWell ["_law_cell"] [] := FsWell.bindsN fun _ _ _ _ _ _ us hl => match us, hl with | [_], _ => rfl
  have gsDip := He.glo_ok X G (c.fact 10 (f := .glo "_law_dip") rfl)
  have bsDip : Binds K fsDip ["_law_well_here", "_law_many"] [] := FsDip.bindsN fun _ _ _ _ _ _ us hl => match us, hl with | [_, _], _ => rfl
  have gsSame := He.glo_ok X G (c.fact 11 (f := .glo "_law_same") rfl)
  have bsSame : Binds K fsSame ["_law_found", "_law_due"] [] := FsSame.bindsN fun _ _ _ _ _ _ us hl => match us, hl with | [_, _], _ => rfl
  have gsWord := He.glo_ok X G (c.fact 12 (f := .glo "_law_word") rfl)
  have bsWord : Binds K fsWord ["_law_well_here", "_law_most"] [] := FsWord.bindsN fun _ _ _ _ _ _ us hl => match us, hl with | [_, _], _ => rfl
  have gsPool := He.glo_ok X G (c.fact 13 (f := .glo "_law_pool") rfl)
  have bsPool : Binds K fsPool ["_law_well_here", "_law_many"] [] := FsPool.bindsN fun _ _ _ _ _ _ us hl => match us, hl with | [_, _], _ => rfl
  have gsLHas := He.glo_ok X G (c.fact 14 (f := .glo "_law_has") rfl)
  have bsLHas : Binds K fsLHas ["_law_note_here", "_law_key"] [] := FsLHas.bindsN fun _ _ _ _ _ _ us hl => match us, hl with | [_, _], _ => rfl
  have gsGiven := He.glo_ok X G (c.fact 15 (f := .glo "_law_given") rfl)
  have bsGiven : Binds K fsGiven ["_law_rows", "_law_note_here"] [] := FsGiven.bindsN fun _ _ _ _ _ _ us hl => match us, hl with | [_, _], _ => rfl
  have gsNote := He.glo_ok X G (c.fact 16 (f := .glo "_law_note") rfl)
  have bsNote : Binds K fsNote ["_law_well_here", "_law_pool_here", "_law_rows"] [] := FsNote.bindsN fun _ _ _ _ _ _ us hl => match us, hl with | [_, _, _], _ => rfl
  have gsNumbers := He.glo_ok X G (c.fact 17 (f := .glo "_law_numbers") rfl)
  have bsNumbers : Binds K fsNumbers ["_law_well_here", "_law_many"] [] := FsNumbers.bindsN fun _ _ _ _ _ _ us hl => match us, hl with | [_, _], _ => rfl
  have gsFree := He.glo_ok X G (c.fact 18 (f := .glo "_law_free_nodes") rfl)
  have bsFree : Binds K fsFree ["_law_well_here", "_law_pool_here", "_law_many"] [] := FsFree.bindsN fun _ _ _ _ _ _ us hl => match us, hl with | [_, _, _], _ => rfl
  have gsCrossed := He.glo_ok X G (c.fact 19 (f := .glo "_law_crossed") rfl)
  have bsCrossed : Binds K fsCrossed ["_law_well_here", "_law_pool_here", "_law_many"] [] := FsCrossed.bindsN fun _ _ _ _ _ _ us hl => match us, hl with | [_, _, _], _ => rfl
  have gsMisses := He.glo_ok X G (c.fact 20 (f := .glo "_law_misses") rfl)
  have bsMisses : Binds K fsMisses ["_law_one", "_law_other"] [] := FsMisses.bindsN fun _ _ _ _ _ _ us hl => match us, hl with | [_, _], _ => rfl
  have gsLPiv := He.glo_ok X G (c.fact 21 (f := .glo "_law_pivots") rfl)
  have bsLPiv : Binds K fsLPiv ["_law_nodes"] [] := FsLPiv.bindsN fun _ _ _ _ _ _ us hl => match us, hl with | [_], _ => rfl
  have m_int := He.free_ok X G (c.fact 23 (f := .free "int") rfl)
  have m_list := He.free_ok X G (c.fact 24 (f := .free "list") rfl)
  have m_tuple := He.free_ok X G (c.fact 25 (f := .free "tuple") rfl)
  have m_sorted := He.free_ok X G (c.fact 26 (f := .free "sorted") rfl)
  have m_len := He.free_ok X G (c.fact 27 (f := .free "len") rfl)
  have m_range := He.free_ok X G (c.fact 28 (f := .free "range") rfl)
  have m_max := He.free_ok X G (c.fact 29 (f := .free "max") rfl)
  have m_set := He.free_ok X G (c.fact 30 (f := .free "set") rfl)
  have m_isinstance := He.free_ok X G (c.fact 31 (f := .free "isinstance") rfl)
  have m_bool := He.free_ok X G (c.fact 32 (f := .free "bool") rfl)
  have m_str := He.free_ok X G (c.fact 33 (f := .free "str") rfl)
  have m_all := He.free_ok X G (c.fact 34 (f := .free "all") rfl)
  have m_any := He.free_ok X G (c.fact 35 (f := .free "any") rfl)
  have m_repr := He.free_ok X G (c.fact 36 (f := .free "repr") rfl)
  have m_min := He.free_ok X G (c.fact 37 (f := .free "min") rfl)
  have e := hfa.symm.trans (He.glo_ok X G (c.fact 22 (f := .glo "law") rfl))
  cases e
  have bLaw := FunD.bindsA (ps := ["_law_script"]) FsLaw fun _ _ _ _ _ _ us hl => match us, hl with | [_], _ => rfl
  have nP : KBn K fsPivots ["nodes"] 0 ["nodes"] (fun _ ws => ws) (fun _ zs => zs) := kb_one FsPivots fun _ _ _ _ _ _ _ => rfl
  refine ⟨fsLaw, fun s v => bLaw s [v] rfl, fun base _ _ => ?_⟩
  have G1 : FnOk P w K mg base CX0 2 _ fsRead ["node", "other"] (spNN readOf) := ok_read FsRead FsHas bsHas gsHas m_any
  have G2 : FnOk P w K mg base CX0 3 _ fsFW ["one", "other"] (spNN fw) := ok_fw FsFW G1 FsRead.kp bsRead gsRead m_any
  have G3 : FnOk P w K mg base CX0 3 _ fsFR ["one", "other"] (spNN fr) := ok_fr FsFR G1 FsRead.kp bsRead gsRead
  have G4 : FnOk P w K mg base CX0 4 _ fsLeads ["one", "other"] (spNN leadsB) := ok_leads FsLeads G2 FsFW.kp bsFW gsFW G3 FsFR.kp bsFR gsFR
  have G5 : FnOk P w K mg base CX0 5 _ fsBehind ["nodes", "number"] spBehind := ok_behind FsBehind G4 FsLeads.kp bsLeads gsLeads m_sorted
  have G6 : FnOk P w K mg base CX0 6 _ fsRing ["nodes", "number"] spRing := ok_ring FsRing G5 FsBehind.kp bsBehind gsBehind
  have G7 : FnOk P w K mg base CX0 5 _ fsOrder ["nodes"] spOrder := ok_order FsOrder G4 FsLeads.kp bsLeads gsLeads m_sorted m_any
  have G8 : FnOk P w K mg base CX0 4 _ fsPivots ["nodes"] spPiv := ok_pivots FsPivots G3 FsFR.kp bsFR gsFR m_sorted
  have H1 : FnOk P w K mg base CX0 1 _ fsWell ["_law_cell"] spWell := ok_well FsWell m_int
  have H2 : FnOk P w K mg base CX0 1 _ fsDip ["_law_well_here", "_law_many"] spDip := ok_dip FsDip m_int
  have H3 : FnOk P w K mg base CX0 4 _ fsSame ["_law_found", "_law_due"] (spSame 4) := ok_same FsSame bsSame gsSame ⟨m_isinstance, m_bool, m_int, m_str, m_list, m_tuple, m_len, m_all, m_range⟩ 4
  have H4 : FnOk P w K mg base CX0 2 _ fsWord ["_law_well_here", "_law_most"] spWord := ok_word FsWord FsDip bsDip gsDip m_int m_range
  have H5 : FnOk P w K mg base CX0 3 _ fsPool ["_law_well_here", "_law_many"] spPool := ok_pool FsPool H2 FsDip.kp bsDip gsDip H4 FsWord.kp bsWord gsWord m_range
  have H6 : FnOk P w K mg base CX0 1 _ fsLHas ["_law_note_here", "_law_key"] spNK := ok_lhas FsLHas
  have H7 : FnOk P w K mg base CX0 2 _ fsGiven ["_law_rows", "_law_note_here"] spGiven := ok_given FsGiven H6 FsLHas.kp bsLHas gsLHas m_tuple m_sorted
  have H8 : FnOk P w K mg base CX0 3 _ fsNote ["_law_well_here", "_law_pool_here", "_law_rows"] spNote := ok_note FsNote H2 FsDip.kp bsDip gsDip H4 FsWord.kp bsWord gsWord H7 FsGiven.kp bsGiven gsGiven m_len
  have H9 : FnOk P w K mg base CX0 2 _ fsNumbers ["_law_well_here", "_law_many"] spNumbers := ok_numbers FsNumbers H2 FsDip.kp bsDip gsDip m_range
  have HA : FnOk P w K mg base CX0 4 _ fsFree ["_law_well_here", "_law_pool_here", "_law_many"] spFree := ok_free FsFree H2 FsDip.kp bsDip gsDip H8 FsNote.kp bsNote gsNote H9 FsNumbers.kp bsNumbers gsNumbers ⟨m_max, m_set, m_tuple, m_sorted, m_len, m_range⟩
  have HB : FnOk P w K mg base CX0 4 _ fsCrossed ["_law_well_here", "_law_pool_here", "_law_many"] spCrossed := ok_crossed FsCrossed H2 FsDip.kp bsDip gsDip H8 FsNote.kp bsNote gsNote H9 FsNumbers.kp bsNumbers gsNumbers ⟨m_int, m_list, m_tuple, m_sorted, m_len, m_range⟩
  have HC : FnOk P w K mg base CX0 2 _ fsMisses ["_law_one", "_law_other"] (spNN missB) := ok_misses FsMisses FsLHas bsLHas gsLHas m_any
  have HD : FnOk P w K mg base CX0 3 _ fsLPiv ["_law_nodes"] spPiv := ok_lpiv FsLPiv HC FsMisses.kp bsMisses gsMisses m_sorted
  exact ok_law FsLaw
    { fS := _, fP := _, fL := _, fW := _, fD := _, fB := _, fF := _, fC := _, fR := _, fO := _, dS := _, dP := _, dL := _, dW := _, dD := _, dB := _, dF := _, dC := _, dR := _, dO := _,
      S := H3, P4 := G8, L := HD, W := H1, D := H2, B := H5, F := HA, C := HB, R := G6, O := G7,
      kS := FsSame.kp, kP := FsPivots.kp, kL := FsLPiv.kp, kW := FsWell.kp, kD := FsDip.kp, kB := FsPool.kp, kF := FsFree.kp, kC := FsCrossed.kp, kR := FsRing.kp, kO := FsOrder.kp,
      bS := bsSame, bP := bsPivots, nP := nP, bL := bsLPiv, bW := bsWell, bD := bsDip, bB := bsPool, bF := bsFree, bC := bsCrossed, bR := bsRing, bO := bsOrder,
      gS := gsSame, gP := gsPivots, gL := gsLPiv, gW := gsWell, gD := gsDip, gB := gsPool, gF := gsFree, gC := gsCrossed, gR := gsRing, gO := gsOrder,
      mRepr := m_repr, mSorted := m_sorted, mMin := m_min }
end K46

set_option Elab.async false
set_option linter.all false
set_option maxRecDepth 100000
set_option maxHeartbeats 0
/-! K46Z: the law's entry, joined with the head. -/
namespace K46
open PySem PySem.Spec PyProof.Rows L2
/-- law(script) where no guards are under way, over an abstract heap that tracks the script alone, or nothing -/
theorem entry_core {P : Program} {w : World} {K : PySem.W.Frag} {mg mb : Str → Option Value} {fa a : Addr} {fd : FuncData} {x : Str} {sp : Sp} {s : Shared} {vs : List Value} {ns : List Int} (KX : K.In s.heap) (hns : s.heap.Ns mainGlobals mg) (hb : s.heap.Ns builtinsNs mb)
    (hbb : ∀ x : Str, x ≠ "__name__" → mb x = bootBuiltins x) (hlim : s.heap.NoLimit) (hg : s.gens = #[]) (ha : s.heap.get? a = some { cls := .type "list", data := .seq vs.toArray })
    (F : ∀ base : Heap, K.In base → base.Ns mainGlobals mg → FnOkG P w K mg base fa fd [x] sp) (hbind : ∀ (s : Shared) (u : Value), BindsTo s fd ⟨[u], []⟩ [(x, u)])
    (H : Hp) (hO : Only H) (hsp : sp [.ref a] H (fun v _ => v = .bl true) fun _ _ _ => False) (hok : HOk P w H s.heap) (hA : ∀ b, H b ≠ none → b = a) (hK : H a ≠ none → K.lookup a = none) :
    codeAny (model P w) callerA (.call (.ref fa) ⟨[.ref a], []⟩) (fun r s' => r = .ok (.ret (.bool true)) ∧ OldK s.heap s'.heap ∧ s'.os = s.os ∧ AllBare s'.gens) s := by
  have free_dict : ∀ {b : Addr} {o : Obj} {es : Array DictEntry} {ep : Nat}, s.heap.get? b = some o → o.data = .dict es ep → H b = none := by
    intro b o es ep e d
    cases q : H b with
    | none => rfl
    | some u =>
      have eb := hA b (by rw [q]; exact Option.some_ne_none u)
      rw [eb, ha] at e
      have eo := Option.some.inj e
      rw [← eo] at d
      exact absurd d (by intro z; cases z)
  have stay : ∀ {b : Addr} {m : Str → Option Value}, s.heap.Ns b m → (hidT s.heap H).Ns b m := by
    rintro b m ⟨o, es, ep, e, d, r⟩
    exact ⟨o, es, ep, hidT_get e (free_dict e d), d, r⟩
  have KB : K.In (hidT s.heap H) := by
    intro b o e
    refine hidT_get (KX b o e) ?_
    cases q : H b with
    | none => rfl
    | some u =>
      have eb := hA b (by rw [q]; exact Option.some_ne_none u)
      have e2 := hK (by rw [← eb, q]; exact Option.some_ne_none u)
      rw [eb, e2] at e
      cases e
  obtain ⟨mc, l1, l2⟩ := hlim
  have M : Mod K mg (hidT s.heap H) := ⟨KB, stay hns, ⟨mb, stay hb, hbb⟩, ⟨mc, stay l1, l2⟩⟩
  have e0 : Env0 P w K mg (hidT s.heap H) callerA [] s H := ⟨rfl, M, fun b o e => of_hidT e, Nat.le_of_eq (hidT_size _ _), trivial, (fun b hb => by cases hb), hok, .of_eq hg⟩
  refine codeAny_mono ((F _ KB (stay hns)).run s H ⟨[.ref a], []⟩ [.ref a] [.ref a] _ _ e0 (hbind s (.ref a)) (.cons rfl .nil) hsp) fun r s' h => ?_
  cases r with
  | error e => exact False.elim h
  | ok fl =>
    cases fl with
    | next => exact h.elim
    | brk => exact h.elim
    | cont => exact h.elim
    | ret u =>
      obtain ⟨v, H', os, bare, un, hok', rv, q⟩ := h
      have q' : v = .bl true := q
      rw [q'] at rv
      have eu : u = Value.bool true := rv
      refine ⟨by rw [eu], OldK.of_keep fun b o e => ?_, os, bare⟩
      rcases hO b with z | ⟨ob, xs, z⟩
      · exact un.keep b o e z (fun y => by cases y) (fun y => by cases y)
      · have z2 := un.frzs b ob _ z
        have e1 := (hok b _ z).1
        have e2 := (hok' b _ z2).1
        rw [e1] at e
        rw [← e]
        exact e2
theorem entry {P : Program} {w : World} {K : PySem.W.Frag} {mg mb : Str → Option Value} {fa a : Addr} {fd : FuncData} {x : Str} {sp : Sp} {s : Shared} {vs : List Value} {ns : List Int} (KX : K.In s.heap) (hns : s.heap.Ns mainGlobals mg) (hb : s.heap.Ns builtinsNs mb)
    (hbb : ∀ x : Str, x ≠ "__name__" → mb x = bootBuiltins x) (hlim : s.heap.NoLimit) (hg : s.gens = #[]) (ha : s.heap.get? a = some { cls := .type "list", data := .seq vs.toArray }) (hi : IntsAre vs ns) (hl : ns.length ≤ sizeLine)
    (F : ∀ base : Heap, K.In base → base.Ns mainGlobals mg → FnOkG P w K mg base fa fd [x] sp) (hbind : ∀ (s : Shared) (u : Value), BindsTo s fd ⟨[u], []⟩ [(x, u)])
    (hsp : ∀ H : Hp, SqL K H a (ns.map V.int) → sp [.ref a] H (fun v _ => v = .bl true) fun _ _ _ => False) :
    codeAny (model P w) callerA (.call (.ref fa) ⟨[.ref a], []⟩) (fun r s' => r = .ok (.ret (.bool true)) ∧ OldK s.heap s'.heap ∧ s'.os = s.os ∧ AllBare s'.gens) s := by
  have rv := vals_ints hi
  have hz : (ns.map V.int).length ≤ sizeLine := by
    rw [List.length_map]
    exact hl
  cases hk : K.lookup a with
  | some o =>
    have e := KX a o hk
    rw [ha] at e
    cases e
    refine entry_core (ns := ns) KX hns hb hbb hlim hg ha F hbind (fun _ => none) (fun _ => .inl rfl) (hsp _ (.inr ⟨_, vs.toArray, _, hk, rfl, rfl, rfl, ?_, by simpa using rv⟩)) (fun b u z => by cases z) (fun b z => absurd rfl z) fun z => absurd rfl z
    rw [List.size_toArray, hi.length]
    exact hl
  | none =>
    have here : upd (fun _ => none) a (.frz { cls := .type "list", data := .seq vs.toArray } (.lst (ns.map V.int))) a = some (.frz { cls := .type "list", data := .seq vs.toArray } (.lst (ns.map V.int))) := upd_same
    have away : ∀ b, b ≠ a → upd (fun _ => none) a (.frz { cls := .type "list", data := .seq vs.toArray } (.lst (ns.map V.int))) b = none := fun b n => upd_ne n
    refine entry_core (ns := ns) KX hns hb hbb hlim hg ha F hbind (upd (fun _ => none) a (.frz { cls := .type "list", data := .seq vs.toArray } (.lst (ns.map V.int)))) (fun b => ?_) (hsp _ (.inl (.inr ⟨_, here⟩))) (fun b u z => ?_) (fun b z => ?_) fun _ => hk
    · by_cases n : b = a
      · rw [n]
        exact .inr ⟨_, _, here⟩
      · exact .inl (away b n)
    · by_cases n : b = a
      · rw [n, here] at z
        rw [n, ← Option.some.inj z]
        exact ⟨ha, hz, vs, _, rv, ha⟩
      · rw [away b n] at z
        cases z
    · by_cases n : b = a
      · exact n
      · exact absurd (away b n) z
end K46
open PySem PySem.W PySem.Calls PyProof.Rows
theorem PySem.Challenge.cw_heldpasts_k46_whole_two_in_a_row_holds : PySem.Challenge.rw_heldpasts_k46_whole_two_in_a_row.Holds := by
  w_on; o_law
  refine HandSHeadRun.head_any (r := K46.headR) (q := view K46.headR.prog [25]) (H := K46.headHk) (ob := K46.headOb) (M := 4000) (loose := K46.headLoose) (d := HandSHeadRun.topDef K46.headR.prog 25) (kwd := []) K46.head_ob
    (by kernel_rfl) (fun s => by kernel_rfl) K46.head_run (by kernel_rfl) (by kernel_rfl) (by kernel_rfl) (by rfl) (by first | assumption | decide +kernel) (by decide +kernel) ⟨rfl, rfl, rfl, rfl, rfl, by decide +kernel⟩ ?hw ?hc
  case hw => w_witness2
  case hc =>
    refine Att.attach_call (l := PySem.Challenge.rw_heldpasts_k46_whole_two_in_a_row) (n := 63) rfl (by kernel_rfl) fun w s₀ s₁ mg mb fa o pm cd doc a vs ns G Y ho hd hcd hmg0 hobj hints hlen hg => ?_
    obtain ⟨K, KX, c⟩ := Y
    have e : (HandSHeadRun.topDef K46.headR.prog 25).name = ("law" : PySem.Str) := by kernel_rfl
    have hmg : mg ("law" : PySem.Str) = some (.ref fa) := by
      rw [← e]
      exact hmg0
    obtain ⟨fd, hb, hF⟩ := K46.head_facts (P := (PySem.Challenge.rw_heldpasts_k46_whole_two_in_a_row).prog) (w := w) KX G.T.g hmg c
    exact K46.entry KX G.T.g G.T.b G.T.builtins G.T.nolimit hg hobj hints (Nat.le_trans hlen (by decide)) hF hb fun H hS => ⟨a, ns, rfl, hS, hlen, fun _ => rfl⟩

