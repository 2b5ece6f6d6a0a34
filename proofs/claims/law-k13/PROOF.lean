import PyProof.Rows.All
import Wide.All
import OpenK.AllK
import Wide.FinOn
import HandS.ForMost
import HandS.Style
import HandS.Zip0
import HandS.Walk
import HandS.Ends
import PySem.Challenge.RW_leastjournal_k13_whole_runs_are_affine
set_option Elab.async false
set_option linter.all false
section
set_option maxRecDepth 100000
namespace K13
open PySem L2
/-! ## places in the text -/
def topS (i : Nat) : Stmt := PySem.Challenge.pw_leastjournal_k13_whole_runs_are_affine.main.body.getD i (.Pass ⟨0, 0, 0, 0⟩)
/-- the module's constants and the built-ins that stay -/
structure Txt (mg : Str → Option Value) : Prop where
  sET : ∃ t, mg "SET" = some (.str "set" t)
  cOPY : ∃ t, mg "COPY" = some (.str "copy" t)
  aDD : ∃ t, mg "ADD" = some (.str "add" t)
  sCALE : ∃ t, mg "SCALE" = some (.str "scale" t)
  sWAP : ∃ t, mg "SWAP" = some (.str "swap" t)
  rEAD : ∃ t, mg "READ" = some (.str "read" t)
  wRITE : ∃ t, mg "WRITE" = some (.str "write" t)
  lOOP : ∃ t, mg "LOOP" = some (.str "loop" t)
  most : ∃ t, mg "MOST_STEPS" = some (.int 20000 t)
  len : mg "len" = none
  abs : mg "abs" = none
  int : mg "int" = none
  list : mg "list" = none
  tuple : mg "tuple" = none
  range : mg "range" = none
  zip : mg "zip" = none
  repr : mg "repr" = none
  max : mg "max" = none
  min : mg "min" = none
  all : mg "all" = none
/-! ## the urn, and what a draw leaves -/
def UrnB : Int := 2305843009213693951
def Urn (H : Hp) (u : Addr) : Prop := ∃ x y : Int, H u = some (.lst [.int x, .int y]) ∧ 0 ≤ x ∧ 0 ≤ y ∧ y < UrnB
/-- all that was tracked stands, but what is at u; the urn at u is an urn -/
structure Ext (u : Addr) (H H' : Hp) : Prop where
  keep : ∀ b o, b ≠ u → H b = some o → H' b = some o
  urn : Urn H' u
theorem Ext.trans {u : Addr} {H H1 H2 : Hp} (a : Ext u H H1) (b : Ext u H1 H2) : Ext u H H2 :=
  ⟨fun c o n e => b.keep c o n (a.keep c o n e), b.urn⟩
theorem Ext.refl {u : Addr} {H : Hp} (h : Urn H u) : Ext u H H := ⟨fun _ _ _ e => e, h⟩
theorem Urn.there {H : Hp} {u : Addr} (h : Urn H u) : ∃ o, H u = some o := let ⟨_, _, e, _⟩ := h; ⟨_, e⟩
theorem Urn.ne {H : Hp} {u p : Addr} (h : Urn H u) (n : H p = none) : u ≠ p := by
  obtain ⟨o, e⟩ := h.there
  exact ne_of_none e n
theorem Urn.upd {H : Hp} {u p : Addr} {o : HO} (h : Urn H u) (n : u ≠ p) : Urn (upd H p o) u := by
  obtain ⟨x, y, e, q⟩ := h
  exact ⟨x, y, by rw [upd_ne n]; exact e, q⟩
/-- a new object beside the urn -/
theorem Ext.new {u p : Addr} {H : Hp} {o : HO} (h : Urn H u) (n : H p = none) : Ext u H (L2.upd H p o) :=
  ⟨fun b z _ e => by rw [upd_ne (ne_of_none e n)]; exact e, h.upd (h.ne n)⟩
theorem Ext.same {u : Addr} {H H' : Hp} (h : Urn H u) (s : Same H H') : Ext u H H' :=
  ⟨fun b o _ e => s b o e, let ⟨x, y, e, q⟩ := h; ⟨x, y, s _ _ e, q⟩⟩
theorem new_same {H : Hp} {p : Addr} {o : HO} (h : H p = none) : Same H (L2.upd H p o) := fun b z e => by
  rw [upd_ne (ne_of_none e h)]; exact e
/-- a tuple is no urn -/
theorem Ext.tup {u a : Addr} {H H' : Hp} {xs : List V} (e : Ext u H H') (hu : Urn H u) (h : H a = some (.tup xs)) : H' a = some (.tup xs) := by
  refine e.keep a _ ?_ h
  rintro rfl
  obtain ⟨x, y, e2, _⟩ := hu
  rw [h] at e2
  cases e2
section
variable {P : Program} {w : World} {K : PySem.W.Frag} {mg : Str → Option Value} {base : Heap}
/-! ## take -/
abbrev sTake : Stmt := topS 21
theorem scTake : FnScope ["_law_urn_here", "_law_below", "_law_digit", "_law_mixed"] ["_law_urn_here", "_law_below"] (defScope sTake) := ⟨rfl, rfl, rfl, by decide +kernel, rfl, by decide +kernel, by decide +kernel⟩
def spTake : Sp := fun vs H Q _ => ∃ (u : Addr) (b : Int), vs = [.ref u, .int b] ∧ Urn H u ∧ 1 ≤ b ∧ b ≤ 1000000 ∧
  ∀ (r : Int) (H' : Hp), Ext u H H' → 0 ≤ r → r < b → Q (.int r) H'
theorem take_ext {H : Hp} {u : Addr} {x y : Int} (h0 : 0 ≤ x) (h1 : 0 ≤ y) (h2 : y < UrnB) : Ext u H (L2.upd H u (.lst [.int x, .int y])) :=
  ⟨fun b o n e => by rw [upd_ne n]; exact e, x, y, upd_same, h0, h1, h2⟩
theorem ok_take {f : Addr} {fd : FuncData} (F : Fun K "_law_take" "_law_take" sTake f fd) : FnOk P w K mg base CX0 1 f fd ["_law_urn_here", "_law_below"] spTake := by
  refine F.ok scTake (fun vs H Q E h => ?_) (fun cdv A outer s H vs Q E hr h => ?_)
  · obtain ⟨u, b, rfl, _⟩ := h
    rfl
  obtain ⟨u, b, rfl, ⟨x, y, hu, hx, hy, hyB⟩, hb1, hb2, q⟩ := h
  refine ⟨_, pss_cons (ps_if (pt_cmpR op_gt (pe_ix ix_list (pv 0) pe_int (fun _ _ => rfl)) pe_int (nomark _))
      (pss_cons (ps_set (i := 2) scTake.nd rfl (.inl rfl) (pe_op op_mod (pe_ix ix_list (pv 0) pe_int (fun _ _ => rfl)) (pv 1)))
      (pss_cons (ps_asg (pe_op op_fdiv (pe_ix ix_list (pv 0) pe_int (fun _ _ => rfl)) (pv 1)) (pg_sub (pv 0) pe_int set_list))
      (pss_one (ps_ret (pv 2))))) pss_nil)
    (pss_cons (ps_asg (pe_op op_mod (pe_op op_add (pe_op op_mul (pe_ix ix_list (pv 0) pe_int (fun _ _ => rfl)) pe_int) pe_int) pe_int) (pg_sub (pv 0) pe_int set_list))
    (pss_cons (ps_set (i := 3) scTake.nd rfl (.inl rfl) (pe_op op_mod (pe_op op_mul (pe_op op_fdiv (pe_ix ix_list (pv 0) pe_int (fun _ _ => rfl)) pe_int)
        (pe_op op_add (pe_op op_mod (pe_ix ix_list (pv 0) pe_int (fun _ _ => rfl)) pe_int) pe_int)) pe_int))
    (pss_cons (ps_if (pt_cmpR op_gt (pv 1) (pe_op op_pow pe_int pe_int) (nomark _)) pss_never pss_nil)
    (pss_one (ps_ret (pe_op op_mod (pe_op op_fdiv (pv 3) pe_int) (pv 1))))))), ?_⟩
  refine ⟨.ref u, rfl, u, _, 0, .int x, rfl, rfl, .of hu, atI_nat (j := 0) rfl, _, _, rfl, rfl, _, rfl, ite2 (fun c => ?_) (fun c => ?_)⟩
  · have c' : 0 < x := of_decide_eq_true c
    refine ⟨.ref u, rfl, u, _, 0, .int x, rfl, rfl, .of hu, atI_nat (j := 0) rfl, .int b, rfl, x, b, rfl, rfl, (by omega), ?_⟩
    refine ⟨.ref u, rfl, u, _, 0, .int x, rfl, rfl, .of hu, atI_nat (j := 0) rfl, .int b, rfl, x, b, rfl, rfl, ⟨by omega, by omega⟩, ?_⟩
    refine ⟨.ref u, rfl, u, _, 0, 0, rfl, rfl, hu, rfl, .int (x % b), rfl, ?_⟩
    exact q (x % b) _ (take_ext (Int.ediv_nonneg hx (by omega)) hy hyB) (Int.emod_nonneg _ (by omega)) (Int.emod_lt_of_pos _ (by omega))
  · obtain ⟨z, hz⟩ : ∃ z : Int, (y * 1181783497276652981 + 12345678910987) % 2305843009213693951 = z := ⟨_, rfl⟩
    have hz0 : 0 ≤ z := by rw [← hz]; exact Int.emod_nonneg _ (by decide)
    have hzl : z < 2305843009213693951 := by rw [← hz]; exact Int.emod_lt_of_pos _ (by decide)
    have hu2 : (L2.upd H u (.lst ([V.int x, V.int y].set 1 (.int ((y * 1181783497276652981 + 12345678910987) % 2305843009213693951))))) u = some (.lst [.int x, .int z]) := by
      rw [hz]
      exact upd_same
    have e2 : (L2.upd H u (.lst ([V.int x, V.int y].set 1 (.int ((y * 1181783497276652981 + 12345678910987) % 2305843009213693951))))) = L2.upd H u (.lst [.int x, .int z]) := by
      rw [hz]
      rfl
    refine ⟨.ref u, rfl, u, _, 1, .int y, rfl, rfl, .of hu, atI_nat (j := 1) rfl, y, 1181783497276652981, rfl, rfl, .inr ⟨by decide, by decide⟩, _, _, rfl, rfl, _, 2305843009213693951, rfl, rfl, (by show (0 : Int) < 2305843009213693951; decide), ?_⟩
    refine ⟨.ref u, rfl, u, _, 1, 1, rfl, rfl, hu, rfl, ?_⟩
    refine ⟨.ref u, rfl, u, _, 1, .int z, rfl, rfl, .of hu2, atI_nat (j := 1) rfl, z, 65537, rfl, rfl, ⟨by decide, by decide⟩, .ref u, rfl, u, _, 1, .int z, rfl, rfl, .of hu2, atI_nat (j := 1) rfl, z, 65537, rfl, rfl, (by show (0 : Int) < 65537; decide),
      _, 3, rfl, rfl, z / 65537, z % 65537 + 3, rfl, rfl, .inr ?_, z / 65537 * (z % 65537 + 3), 2305843009213693921, rfl, rfl, (by show (0 : Int) < 2305843009213693921; decide), ?_⟩
    · have := Int.emod_nonneg z (show (65537 : Int) ≠ 0 by decide)
      have := Int.emod_lt_of_pos z (show (0 : Int) < 65537 by decide)
      constructor <;> omega
    refine ⟨.int b, rfl, 10, 9, rfl, rfl, ⟨by decide, by decide, by decide⟩, b, 1000000000, rfl, rfl, _, rfl, ?_⟩
    rw [show decide ((1000000000 : Int) < b) = false from decide_eq_false (by omega)]
    refine iteF ?_
    refine ⟨.int (z / 65537 * (z % 65537 + 3) % 2305843009213693921), rfl, z / 65537 * (z % 65537 + 3) % 2305843009213693921, 97, rfl, rfl, ⟨by decide, by decide⟩, .int b, rfl, z / 65537 * (z % 65537 + 3) % 2305843009213693921 / 97, b, rfl, rfl, (by show 0 < b; omega), ?_⟩
    refine q (z / 65537 * (z % 65537 + 3) % 2305843009213693921 / 97 % b) _ ?_ (Int.emod_nonneg _ (by omega)) (Int.emod_lt_of_pos _ (by omega))
    show Ext u H (L2.upd H u (.lst ([V.int x, V.int y].set 1 (.int ((y * 1181783497276652981 + 12345678910987) % 2305843009213693951)))))
    rw [e2]
    exact take_ext hx hz0 hzl
/-- a def of the text, as it stands behind the top -/
structure DefAt (K : PySem.W.Frag) (mg : Str → Option Value) (x : Str) (st : Stmt) (ps : List Str) (f : Addr) (fd : FuncData) : Prop where
  fn : Fun K x x st f fd
  b : Binds K fd ps []
  m : mg x = some (.ref f)
/-! ## of -/
abbrev sOf : Stmt := topS 22
theorem scOf : FnScope ["_law_urn_here", "_law_items"] ["_law_urn_here", "_law_items"] (defScope sOf) := ⟨rfl, rfl, rfl, by decide +kernel, rfl, by decide +kernel, by decide +kernel⟩
def spOf : Sp := fun vs H Q _ => ∃ (u a : Addr) (xs : List V), vs = [.ref u, .ref a] ∧ Urn H u ∧ a ≠ u ∧ H a = some (.lst xs) ∧ 1 ≤ xs.length ∧ xs.length ≤ 1000 ∧
  ∀ (x : V) (H' : Hp), Ext u H H' → x ∈ xs → Q x H'
theorem ok_of {f fT : Addr} {fd fdT : FuncData} (T : Txt mg) (F : Fun K "_law_of" "_law_of" sOf f fd) (DT : DefAt K mg "_law_take" sTake ["_law_urn_here", "_law_below"] fT fdT) :
    FnOk P w K mg base CX0 2 f fd ["_law_urn_here", "_law_items"] spOf := by
  have GT : FnOk P w K mg base CX0 1 fT fdT ["_law_urn_here", "_law_below"] spTake := ok_take DT.fn
  refine F.ok scOf (fun vs H Q E h => ?_) (fun cdv A outer s H vs Q E hr h => ?_)
  · obtain ⟨u, a, xs, rfl, _⟩ := h
    rfl
  obtain ⟨u, a, xs, rfl, hu, hau, ha, h1, h2, q⟩ := h
  refine ⟨_, pss_one (ps_ret (pe_ix ix_list (pv 1) (pe_call GT hr rfl DT.m DT.fn.kp DT.b .nil pass0 (pa_cons (pv 0) (pa_cons (pe_callB call_len_seq (by rfl) T.len PySem.boot_len (pa_cons (pv 1) pa_nil)) pa_nil))) (fun _ _ => rfl))), ?_⟩
  refine ⟨.ref a, rfl, .ref u, rfl, .ref a, rfl, a, xs, rfl, .inl (.of ha), u, xs.length, rfl, hu, by omega, by omega, fun r H' e h0 hl => ?_⟩
  obtain ⟨j, rfl⟩ : ∃ j : Nat, r = j := ⟨r.toNat, by omega⟩
  have hj : j < xs.length := by omega
  exact ⟨a, xs, j, xs[j], rfl, rfl, .of (e.keep a _ hau ha), atI_nat (List.getElem?_eq_getElem hj), q _ _ e (List.getElem_mem hj)⟩
/-! ## prime -/
abbrev sPrime : Stmt := topS 23
theorem scPrime : FnScope ["_law_urn_here"] ["_law_urn_here"] (defScope sPrime) := ⟨rfl, rfl, rfl, by decide +kernel, rfl, by decide +kernel, by decide +kernel⟩
def spPrime : Sp := fun vs H Q _ => ∃ u : Addr, vs = [.ref u] ∧ Urn H u ∧ ∀ (p : Int) (H' : Hp), Ext u H H' → 2 ≤ p → p ≤ 10007 → Q (.int p) H'
theorem ok_prime {f fO : Addr} {fd fdO : FuncData} (F : Fun K "_law_prime" "_law_prime" sPrime f fd) (DO : DefAt K mg "_law_of" sOf ["_law_urn_here", "_law_items"] fO fdO)
    (GO : FnOk P w K mg base CX0 2 fO fdO ["_law_urn_here", "_law_items"] spOf) : FnOk P w K mg base CX0 3 f fd ["_law_urn_here"] spPrime := by
  refine F.ok scPrime (fun vs H Q E h => ?_) (fun cdv A outer s H vs Q E hr h => ?_)
  · obtain ⟨u, rfl, _⟩ := h
    rfl
  obtain ⟨u, rfl, hu, q⟩ := h
  refine ⟨_, pss_one (ps_ret (pe_call GO hr rfl DO.m DO.fn.kp DO.b .nil pass0 (pa_cons (pv 0) (pa_cons (pe_lst (pa_cons pe_int (pa_cons pe_int (pa_cons pe_int (pa_cons pe_int (pa_cons pe_int (pa_cons pe_int (pa_cons pe_int
    (pa_cons pe_int (pa_cons pe_int (pa_cons pe_int (pa_cons pe_int (pa_cons pe_int (pa_cons pe_int pa_nil)))))))))))))) pa_nil)))), ?_⟩
  refine ⟨.ref u, rfl, (by show 13 ≤ sizeLine; decide), fun l hl => ?_⟩
  refine ⟨u, l, _, rfl, (Ext.new hu hl).urn, (hu.ne hl).symm, upd_same, (by show 1 ≤ 13; decide), (by show 13 ≤ 1000; decide), fun x H' e hx => ?_⟩
  have e2 : Ext u H H' := (Ext.new hu hl).trans e
  simp only [List.mem_cons, List.not_mem_nil, or_false] at hx
  rcases hx with rfl | rfl | rfl | rfl | rfl | rfl | rfl | rfl | rfl | rfl | rfl | rfl | rfl <;> exact q _ _ e2 (by decide) (by decide)
end
/-! ## instructions -/
inductive Pl where
  | set (x : Nat) (c : Int)
  | copy (x y : Nat)
  | add (x y : Nat) (c : Int)
  | scale (x : Nat) (c : Int)
  | swap (x y : Nat)
  | read (x : Nat)
  | write (x : Nat)
def Pl.vals : Pl → List V
  | .set x c => [.str "set", .int x, .int c]
  | .copy x y => [.str "copy", .int x, .int y]
  | .add x y c => [.str "add", .int x, .int y, .int c]
  | .scale x c => [.str "scale", .int x, .int c]
  | .swap x y => [.str "swap", .int x, .int y]
  | .read x => [.str "read", .int x]
  | .write x => [.str "write", .int x]
def Pl.wf (p : Int) (n : Nat) : Pl → Prop
  | .set x c => x < n ∧ 0 ≤ c ∧ c < p
  | .copy x y => x < n ∧ y < n
  | .add x y _ => x < n ∧ y < n
  | .scale x _ => x < n
  | .swap x y => x < n ∧ y < n
  | .read x => x < n
  | .write x => x < n
def PlI (p : Int) (n : Nat) (H : Hp) (v : V) (i : Pl) : Prop := ∃ t : Addr, v = .ref t ∧ H t = some (.tup i.vals) ∧ i.wf p n
/-- an item of a program and its executed instructions; R says the same of a body -/
def ItI (p : Int) (n : Nat) (R : Addr → List Pl → Prop) (H : Hp) (v : V) (li : List Pl) : Prop :=
  (∃ i, li = [i] ∧ PlI p n H v i) ∨ ∃ (t : Addr) (k : Nat) (b : Addr) (l : List Pl), v = .ref t ∧ H t = some (.tup [.str "loop", .int k, .ref b]) ∧ R b l ∧ l.length ≤ 1000 ∧ li = (List.replicate k l).flatten
/-- the program at a, loops less than d deep, and its executed instructions -/
def Rep (p : Int) (n : Nat) (H : Hp) : Nat → Addr → List Pl → Prop
  | 0, _, _ => False
  | d + 1, a, l => ∃ (xs : List V) (ls : List (List Pl)), H a = some (.tup xs) ∧ Paired (ItI p n (Rep p n H d) H) xs ls ∧ l = ls.flatten
/-- tuples stand -/
def Tups (H H' : Hp) : Prop := ∀ a xs, H a = some (.tup xs) → H' a = some (.tup xs)
theorem Tups.of_same {H H' : Hp} (s : Same H H') : Tups H H' := fun a xs e => s a _ e
theorem Ext.tups {u : Addr} {H H' : Hp} (e : Ext u H H') (hu : Urn H u) : Tups H H' := fun a xs h => e.tup hu h
theorem PlI.keep {p : Int} {n : Nat} {H H' : Hp} {v : V} {i : Pl} (h : PlI p n H v i) (k : Tups H H') : PlI p n H' v i := by
  obtain ⟨t, e, h1, h2⟩ := h
  exact ⟨t, e, k _ _ h1, h2⟩
theorem paired_imp {α β : Type} {F G : α → β → Prop} : ∀ {l : List α} {m : List β}, Paired F l m → (∀ a b, F a b → G a b) → Paired G l m
  | _, _, .nil, _ => .nil
  | _, _, .cons r t, f => .cons (f _ _ r) (paired_imp t f)
theorem paired_app {α β : Type} {F : α → β → Prop} : ∀ {l l' : List α} {m m' : List β}, Paired F l m → Paired F l' m' → Paired F (l ++ l') (m ++ m')
  | _, _, _, _, .nil, t => t
  | _, _, _, _, .cons r t, t' => .cons r (paired_app t t')
theorem ItI.keep {p : Int} {n : Nat} {R R' : Addr → List Pl → Prop} {H H' : Hp} {v : V} {li : List Pl} (h : ItI p n R H v li) (k : Tups H H') (hR : ∀ a l, R a l → R' a l) : ItI p n R' H' v li := by
  rcases h with ⟨i, e, h⟩ | ⟨t, c, b, l, e, h1, h2, h3, h4⟩
  · exact .inl ⟨i, e, h.keep k⟩
  · exact .inr ⟨t, c, b, l, e, k _ _ h1, hR _ _ h2, h3, h4⟩
theorem Rep.keep {p : Int} {n : Nat} {H H' : Hp} (k : Tups H H') : ∀ (d : Nat) (a : Addr) (l : List Pl), Rep p n H d a l → Rep p n H' d a l
  | 0, _, _, h => h
  | d + 1, a, l, h => by
    obtain ⟨xs, ls, h1, h2, h3⟩ := h
    exact ⟨xs, ls, k _ _ h1, paired_imp h2 fun v li q => q.keep k (Rep.keep k d), h3⟩
end K13
end
section
set_option maxRecDepth 100000
namespace K13
open PySem L2
theorem iteB {b : Bool} {A B : Prop} (k : Bool) (e : b = k) (h : if k = true then A else B) : if b = true then A else B := by
  subst e
  exact h
section
variable {P : Program} {w : World} {K : PySem.W.Frag} {mg : Str → Option Value} {base : Heap}
/-! ## words -/
def wordsV : List V := [.str "set", .str "copy", .str "copy", .str "add", .str "add", .str "scale", .str "swap", .str "read", .str "write"]
abbrev sWords : Stmt := topS 26
theorem scWords : FnScope [] [] (defScope sWords) := ⟨rfl, rfl, rfl, by decide +kernel, rfl, by decide +kernel, by decide +kernel⟩
def spWords : Sp := fun vs H Q _ => vs = [] ∧ ∀ l, H l = none → Q (.ref l) (upd H l (.lst wordsV))
theorem ok_words {f : Addr} {fd : FuncData} (F : Fun K "_law_words" "_law_words" sWords f fd) : FnOk P w K mg base CX0 1 f fd [] spWords := by
  refine F.ok scWords (fun vs H Q E h => ?_) (fun cdv A outer s H vs Q E hr h => ?_)
  · obtain ⟨rfl, _⟩ := h
    rfl
  obtain ⟨rfl, q⟩ := h
  refine ⟨_, pss_one (ps_ret (pe_lst (pa_cons pe_str (pa_cons pe_str (pa_cons pe_str (pa_cons pe_str (pa_cons pe_str (pa_cons pe_str (pa_cons pe_str (pa_cons pe_str (pa_cons pe_str pa_nil))))))))))), ?_⟩
  exact ⟨(by show 9 ≤ sizeLine; decide), q⟩
/-! ## item -/
abbrev sItem : Stmt := topS 24
abbrev nItem : List Str := ["_law_urn_here", "_law_p", "_law_n", "_law_words_here", "_law_word", "_law_x", "_law_c", "_law_y"]
abbrev pItem : List Str := ["_law_urn_here", "_law_p", "_law_n", "_law_words_here"]
theorem scItem : FnScope nItem pItem (defScope sItem) := ⟨rfl, rfl, rfl, by decide +kernel, rfl, by decide +kernel, by decide +kernel⟩
def spItem : Sp := fun vs H Q _ => ∃ (u a : Addr) (p : Int) (n : Nat), vs = [.ref u, .int p, .int n, .ref a] ∧ Urn H u ∧ 2 ≤ p ∧ p ≤ 10007 ∧ 1 ≤ n ∧ n ≤ 8 ∧ a ≠ u ∧ H a = some (.lst wordsV) ∧
  ∀ (t : Addr) (i : Pl) (H' : Hp), Ext u H H' → H' t = some (.tup i.vals) → i.wf p n → Q (.ref t) H'
theorem ok_item {f fT fO : Addr} {fd fdT fdO : FuncData} (F : Fun K "_law_item" "_law_item" sItem f fd) (DT : DefAt K mg "_law_take" sTake ["_law_urn_here", "_law_below"] fT fdT)
    (GT : FnOk P w K mg base CX0 1 fT fdT ["_law_urn_here", "_law_below"] spTake) (DO : DefAt K mg "_law_of" sOf ["_law_urn_here", "_law_items"] fO fdO)
    (GO : FnOk P w K mg base CX0 2 fO fdO ["_law_urn_here", "_law_items"] spOf) : FnOk P w K mg base CX0 3 f fd pItem spItem := by
  refine F.ok scItem (fun vs H Q E h => ?_) (fun cdv A outer s H vs Q E hr h => ?_)
  · obtain ⟨u, a, p, n, rfl, _⟩ := h
    rfl
  obtain ⟨u, a, p, n, rfl, hu, hp1, hp2, hn1, hn2, hau, ha, q⟩ := h
  have hr1 : Room 1 _ := hr.mono (by decide)
  refine ⟨_, pss_cons (ps_set (i := 4) scItem.nd rfl (.inl rfl) (pe_call GO hr rfl DO.m DO.fn.kp DO.b .nil pass0 (pa_cons (pv 0) (pa_cons (pv 3) pa_nil))))
    (pss_cons (ps_par (i := 5) (j := 6) rfl scItem.nd rfl rfl (by decide) rfl rfl (pa_cons (pe_call GT hr1 rfl DT.m DT.fn.kp DT.b .nil pass0 (pa_cons (pv 0) (pa_cons (pv 2) pa_nil)))
      (pa_cons (pe_call GO hr rfl DO.m DO.fn.kp DO.b .nil pass0 (pa_cons (pv 0) (pa_cons (pe_lst (pa_cons pe_int (pa_cons (pe_op op_mod pe_int (pv 1)) (pa_cons (pe_op op_sub (pv 1) pe_int)
        (pa_cons (pe_call GT hr1 rfl DT.m DT.fn.kp DT.b .nil pass0 (pa_cons (pv 0) (pa_cons (pv 1) pa_nil))) pa_nil))))) pa_nil))) pa_nil)) (by rfl))
    (pss_cons (ps_if (pt_cmpR op_in_seq (pv 4) (pe_tup (pa_cons pe_str (pa_cons pe_str pa_nil))) rfl) (pss_one (ps_ret (pe_tup (pa_cons (pv 4) (pa_cons (pv 5) (pa_cons (pv 6) pa_nil)))))) pss_nil)
    (pss_cons (ps_if (pt_cmpR op_in_seq (pv 4) (pe_tup (pa_cons pe_str (pa_cons pe_str pa_nil))) rfl) (pss_one (ps_ret (pe_tup (pa_cons (pv 4) (pa_cons (pv 5) pa_nil))))) pss_nil)
    (pss_cons (ps_if (pt_cmpR op_eq (pv 2) pe_int (nomark _)) (pss_one (ps_ret (pe_tup (pa_cons pe_str (pa_cons pe_int (pa_cons (pv 6) pa_nil)))))) pss_nil)
    (pss_cons (ps_set (i := 7) scItem.nd rfl (.inl rfl) (pe_op op_mod (pe_op op_add (pe_op op_add (pv 5) pe_int) (pe_call GT hr1 rfl DT.m DT.fn.kp DT.b .nil pass0 (pa_cons (pv 0) (pa_cons (pe_op op_sub (pv 2) pe_int) pa_nil)))) (pv 2)))
    (pss_cons (ps_if (pt_cmpR op_eq (pv 4) pe_str (nomark _)) (pss_one (ps_ret (pe_tup (pa_cons (pv 4) (pa_cons (pv 5) (pa_cons (pv 7)
        (pa_cons (pe_ifExp (pt_cmpR op_gt (pv 1) pe_int (nomark _)) (pe_op op_add pe_int (pe_op op_mod (pv 6) (pe_op op_sub (pv 1) pe_int))) pe_int) pa_nil))))))) pss_nil)
    (pss_one (ps_ret (pe_tup (pa_cons (pv 4) (pa_cons (pv 5) (pa_cons (pv 7) pa_nil)))))))))))), ?_⟩
  -- the word
  refine ⟨.ref u, rfl, .ref a, rfl, u, a, wordsV, rfl, hu, hau, ha, (by decide), (by decide), fun wd H1 e1 hw => ?_⟩
  -- x and c
  refine ⟨.ref u, rfl, .int n, rfl, u, n, rfl, e1.urn, by omega, by omega, fun x H2 e2 hx0 hxn => ?_⟩
  refine ⟨.ref u, rfl, .int p, rfl, 1, p, rfl, rfl, (by show 0 < p; omega), .int p, rfl, p, 1, rfl, rfl, .ref u, rfl, .int p, rfl, u, p, rfl, e2.urn, by omega, by omega, fun r H3 e3 hr0 hrp => ?_⟩
  refine ⟨(by show 4 ≤ sizeLine; decide), fun l hl => ?_⟩
  refine ⟨u, l, _, rfl, (Ext.new e3.urn hl).urn, (e3.urn.ne hl).symm, upd_same, (by show 1 ≤ 4; decide), (by show 4 ≤ 1000; decide), fun c H4 e4 hc => ?_⟩
  obtain ⟨ci, rfl, hc0, hcp⟩ : ∃ ci : Int, c = .int ci ∧ 0 ≤ ci ∧ ci < p := by
    simp only [List.mem_cons, List.not_mem_nil, or_false] at hc
    rcases hc with rfl | rfl | rfl | rfl
    · exact ⟨_, rfl, by omega, by omega⟩
    · exact ⟨_, rfl, Int.emod_nonneg _ (by omega), Int.emod_lt_of_pos _ (by omega)⟩
    · exact ⟨_, rfl, by omega, by omega⟩
    · exact ⟨_, rfl, hr0, hrp⟩
  obtain ⟨xn, rfl⟩ : ∃ xn : Nat, x = xn := ⟨x.toNat, by omega⟩
  have hxn' : xn < n := by omega
  have e5 : Ext u H H4 := e1.trans (e2.trans (e3.trans ((Ext.new e3.urn hl).trans e4)))
  refine ⟨_, _, rfl, ?_⟩
  have hw' : wd = .str "set" ∨ wd = .str "scale" ∨ wd = .str "read" ∨ wd = .str "write" ∨ wd = .str "copy" ∨ wd = .str "swap" ∨ wd = .str "add" := by
    simp only [wordsV, List.mem_cons, List.not_mem_nil, or_false] at hw
    rcases hw with h | h | h | h | h | h | h | h | h <;> simp [h]
  clear hw
  -- set, scale
  refine ⟨wd, rfl, (by show 2 ≤ sizeLine; decide), fun t1 ht1 => ⟨t1, _, rfl, .inr (.of upd_same), ?_⟩⟩
  have e6 : Ext u H (upd H4 t1 (.tup [.str "set", .str "scale"])) := e5.trans (Ext.new e5.urn ht1)
  rcases hw' with rfl | rfl | hw'
  · refine ⟨rfl, rfl, _, rfl, iteB true (by decide +kernel) (iteT ?_)⟩
    refine ⟨_, rfl, _, rfl, _, rfl, (by show 3 ≤ sizeLine; decide), fun t ht => ?_⟩
    exact q t (.set xn ci) _ (e6.trans (Ext.new e6.urn ht)) upd_same ⟨hxn', hc0, hcp⟩
  · refine ⟨rfl, rfl, _, rfl, iteB true (by decide +kernel) (iteT ?_)⟩
    refine ⟨_, rfl, _, rfl, _, rfl, (by show 3 ≤ sizeLine; decide), fun t ht => ?_⟩
    exact q t (.scale xn ci) _ (e6.trans (Ext.new e6.urn ht)) upd_same hxn'
  have hf : flatV wd = true := by rcases hw' with rfl | rfl | rfl | rfl | rfl <;> rfl
  have hin : inV wd [.str "set", .str "scale"] = false := by rcases hw' with rfl | rfl | rfl | rfl | rfl <;> decide +kernel
  refine ⟨hf, rfl, _, rfl, iteB false hin (iteF ?_)⟩
  -- read, write
  refine ⟨wd, rfl, (by show 2 ≤ sizeLine; decide), fun t2 ht2 => ⟨t2, _, rfl, .inr (.of upd_same), hf, rfl, _, rfl, ?_⟩⟩
  have e7 : Ext u H (upd (upd H4 t1 (.tup [.str "set", .str "scale"])) t2 (.tup [.str "read", .str "write"])) := e6.trans (Ext.new e6.urn ht2)
  rcases hw' with rfl | rfl | hw'
  · refine iteB true (by decide +kernel) (iteT ?_)
    refine ⟨_, rfl, _, rfl, (by show 2 ≤ sizeLine; decide), fun t ht => ?_⟩
    exact q t (.read xn) _ (e7.trans (Ext.new e7.urn ht)) upd_same hxn'
  · refine iteB true (by decide +kernel) (iteT ?_)
    refine ⟨_, rfl, _, rfl, (by show 2 ≤ sizeLine; decide), fun t ht => ?_⟩
    exact q t (.write xn) _ (e7.trans (Ext.new e7.urn ht)) upd_same hxn'
  have hin : inV wd [.str "read", .str "write"] = false := by rcases hw' with rfl | rfl | rfl <;> decide +kernel
  refine iteB false hin (iteF ?_)
  -- one register
  refine ⟨_, rfl, rfl, _, rfl, ite2 (fun cn => ?_) (fun cn => ?_)⟩
  · refine ⟨_, rfl, (by show 3 ≤ sizeLine; decide), fun t ht => ?_⟩
    exact q t (.set 0 ci) _ (e7.trans (Ext.new e7.urn ht)) upd_same ⟨by omega, hc0, hcp⟩
  have hn : n ≠ 1 := fun z => cn (by rw [z]; rfl)
  -- y
  refine ⟨_, rfl, xn, 1, rfl, rfl, .ref u, rfl, .int n, rfl, n, 1, rfl, rfl, u, (n : Int) - 1, rfl, e7.urn, by omega, by omega, fun r2 H6 e8 hr20 hr2n => ?_⟩
  refine ⟨(xn : Int) + 1, r2, rfl, rfl, .int n, rfl, (xn : Int) + 1 + r2, n, rfl, rfl, (by show (0 : Int) < n; omega), ?_⟩
  have hy0 := Int.emod_nonneg ((xn : Int) + 1 + r2) (show (n : Int) ≠ 0 by omega)
  have hyn := Int.emod_lt_of_pos ((xn : Int) + 1 + r2) (show (0 : Int) < n by omega)
  obtain ⟨yn, hyv⟩ : ∃ yn : Nat, ((xn : Int) + 1 + r2) % n = yn := ⟨(((xn : Int) + 1 + r2) % n).toNat, by omega⟩
  have hyn' : yn < n := by omega
  have e9 : Ext u H H6 := e7.trans e8
  refine ⟨wd, rfl, ?_⟩
  rcases hw' with rfl | rfl | rfl
  · refine ⟨rfl, _, rfl, iteB false (by decide +kernel) (iteF ?_)⟩
    refine ⟨_, rfl, _, rfl, .int yn, by rw [← hyv]; rfl, (by show 3 ≤ sizeLine; decide), fun t ht => ?_⟩
    exact q t (.copy xn yn) _ (e9.trans (Ext.new e9.urn ht)) upd_same ⟨hxn', hyn'⟩
  · refine ⟨rfl, _, rfl, iteB false (by decide +kernel) (iteF ?_)⟩
    refine ⟨_, rfl, _, rfl, .int yn, by rw [← hyv]; rfl, (by show 3 ≤ sizeLine; decide), fun t ht => ?_⟩
    exact q t (.swap xn yn) _ (e9.trans (Ext.new e9.urn ht)) upd_same ⟨hxn', hyn'⟩
  · refine ⟨rfl, _, rfl, iteB true (by decide +kernel) (iteT ?_)⟩
    refine ⟨_, rfl, _, rfl, .int yn, by rw [← hyv]; rfl, .int p, rfl, p, 2, rfl, rfl, _, rfl, ite2 (fun c2 => ?_) (fun c2 => ?_)⟩
    · have c2' : 2 < p := of_decide_eq_true c2
      refine ⟨.int ci, rfl, .int p, rfl, p, 1, rfl, rfl, ci, p - 1, rfl, rfl, (by show 0 < p - 1; omega), 1, _, rfl, rfl, (by show 4 ≤ sizeLine; decide), fun t ht => ?_⟩
      exact q t (.add xn yn (1 + ci % (p - 1))) _ (e9.trans (Ext.new e9.urn ht)) upd_same ⟨hxn', hyn'⟩
    · refine ⟨(by show 4 ≤ sizeLine; decide), fun t ht => ?_⟩
      exact q t (.add xn yn 1) _ (e9.trans (Ext.new e9.urn ht)) upd_same ⟨hxn', hyn'⟩
end
end K13
end
section
set_option maxRecDepth 100000
namespace K13
open PySem L2
theorem Ext.put {u p : Addr} {H H' : Hp} {o : HO} (e : Ext u H H') (n : H p = none) (hp : p ≠ u) : Ext u H (L2.upd H' p o) :=
  ⟨fun b z hb h => by rw [upd_ne (ne_of_none h n)]; exact e.keep b z hb h, e.urn.upd hp.symm⟩
theorem tups_put {H : Hp} {p : Addr} {xs : List V} {o : HO} (h : H p = some (.lst xs)) : Tups H (L2.upd H p o) := fun a ys e => by
  have hne : a ≠ p := ne_of e h (by intro z; cases z)
  rw [upd_ne hne]
  exact e
theorem tups_new {H : Hp} {p : Addr} {o : HO} (h : H p = none) : Tups H (L2.upd H p o) := fun a ys e => by
  rw [upd_ne (ne_of_none e h)]
  exact e
theorem Tups.trans {H H1 H2 : Hp} (a : Tups H H1) (b : Tups H1 H2) : Tups H H2 := fun c xs e => b c xs (a c xs e)
/-- how many instructions a body may execute -/
def bnd : Nat → Nat → Nat
  | 0, L => L * 1
  | D + 1, L => L * max 1 (5 * bnd D (L / 2))
def itB : Nat → Nat → Nat
  | 0, _ => 1
  | D + 1, L => max 1 (5 * bnd D (L / 2))
theorem bnd_eq : ∀ D L, bnd D L = L * itB D L
  | 0, _ => rfl
  | _ + 1, _ => rfl
theorem itB_pos : ∀ D L, 1 ≤ itB D L
  | 0, _ => Nat.le_refl _
  | _ + 1, _ => Nat.le_max_left _ _
theorem bnd_nil : ∀ D, bnd D 0 = 0
  | 0 => rfl
  | D + 1 => by
    show 0 * max 1 (5 * bnd D 0) = 0
    omega
theorem bnd_one : ∀ D, bnd D 1 = 1
  | 0 => rfl
  | D + 1 => by
    show 1 * max 1 (5 * bnd D 0) = 1
    rw [bnd_nil]
    decide
theorem bnd_small : ∀ (D L : Nat), L ≤ 3 → bnd D L ≤ 15
  | 0, L, h => by
    show L * 1 ≤ 15
    omega
  | D + 1, 0, _ => by rw [bnd_nil]; decide
  | D + 1, 1, _ => by rw [bnd_one]; decide
  | D + 1, 2, _ => by
    show 2 * max 1 (5 * bnd D 1) ≤ 15
    rw [bnd_one]
    decide
  | D + 1, 3, _ => by
    show 3 * max 1 (5 * bnd D 1) ≤ 15
    rw [bnd_one]
    decide
  | D + 1, L + 4, h => by omega
theorem flat_rep_len {α : Type} (k : Nat) (l : List α) : ((List.replicate k l).flatten).length = k * l.length := by
  induction k with
  | zero => simp
  | succ k ih => rw [List.replicate_succ, List.flatten_cons, List.length_append, ih, Nat.succ_mul]; omega
section
variable {P : Program} {w : World} {K : PySem.W.Frag} {mg : Str → Option Value} {base : Heap}
abbrev sBody : Stmt := topS 25
abbrev nBody : List Str := ["_law_urn_here", "_law_p", "_law_n", "_law_words_here", "_law_length", "_law_deep", "_law_rounds", "_law_found", "_law_turn", "_law_inner"]
abbrev pBody : List Str := ["_law_urn_here", "_law_p", "_law_n", "_law_words_here", "_law_length", "_law_deep", "_law_rounds"]
theorem scBody : FnScope nBody pBody (defScope sBody) := ⟨rfl, rfl, rfl, by decide +kernel, rfl, by decide +kernel, by decide +kernel⟩
def roundsV : List V := [.int 0, .int 1, .int 2, .int 3, .int 5]
def spBody (D : Nat) : Sp := fun vs H Q _ => ∃ (u a b : Addr) (p : Int) (n L : Nat), vs = [.ref u, .int p, .int n, .ref a, .int L, .int D, .ref b] ∧ Urn H u ∧ 2 ≤ p ∧ p ≤ 10007 ∧ 1 ≤ n ∧ n ≤ 8 ∧ a ≠ u ∧ H a = some (.lst wordsV) ∧
  b ≠ u ∧ H b = some (.lst roundsV) ∧ L ≤ 6 ∧ ∀ (t : Addr) (l : List Pl) (H' : Hp), Ext u H H' → Rep p n H' (D + 1) t l → l.length ≤ bnd D L → Q (.ref t) H'
/-- what the def itself is called for, one loop deeper -/
def spRec : Nat → Sp
  | 0 => fun _ _ _ _ => False
  | D + 1 => spBody D
theorem round_of {x : V} (h : x ∈ roundsV) : ∃ k : Nat, x = .int k ∧ k ≤ 5 := by
  simp only [roundsV, List.mem_cons, List.not_mem_nil, or_false] at h
  rcases h with rfl | rfl | rfl | rfl | rfl
  · exact ⟨0, rfl, by decide⟩
  · exact ⟨1, rfl, by decide⟩
  · exact ⟨2, rfl, by decide⟩
  · exact ⟨3, rfl, by decide⟩
  · exact ⟨5, rfl, by decide⟩
theorem ok_body {D : Nat} {f fT fO fI : Addr} {fd fdT fdO fdI : FuncData} (T : Txt mg) (F : DefAt K mg "_law_body" sBody pBody f fd) (DT : DefAt K mg "_law_take" sTake ["_law_urn_here", "_law_below"] fT fdT)
    (GT : FnOk P w K mg base CX0 1 fT fdT ["_law_urn_here", "_law_below"] spTake) (DO : DefAt K mg "_law_of" sOf ["_law_urn_here", "_law_items"] fO fdO)
    (GO : FnOk P w K mg base CX0 2 fO fdO ["_law_urn_here", "_law_items"] spOf) (DI : DefAt K mg "_law_item" sItem pItem fI fdI) (GI : FnOk P w K mg base CX0 3 fI fdI pItem spItem)
    (G : FnOk P w K mg base CX0 (3 + D) f fd pBody (spRec D)) : FnOk P w K mg base CX0 (3 + D + 1) f fd pBody (spBody D) := by
  refine F.fn.ok scBody (fun vs H Q E h => ?_) (fun cdv A outer s H vs Q E hr h => ?_)
  · obtain ⟨u, a, b, p, n, L, rfl, _⟩ := h
    rfl
  obtain ⟨u, a, b, p, n, L, rfl, hu, hp1, hp2, hn1, hn2, hau, ha, hbu, hb, hL, q⟩ := h
  have hr1 : Room 1 _ := hr.mono (by omega)
  have hr2 : Room 2 _ := hr.mono (by omega)
  have hr3 : Room 3 _ := hr.mono (by omega)
  refine ⟨_, pss_cons (ps_set (i := 7) scBody.nd rfl (.inl rfl) (pe_lst pa_nil))
    (pss_cons (ps_for PassesOwn.never rfl (pi_range1 rfl T.range (pa_cons (pe_call GT hr1 rfl DT.m DT.fn.kp DT.b .nil pass0 (pa_cons (pv 0) (pa_cons (pe_op op_add (pv 4) pe_int) pa_nil))) pa_nil)) (pg_name (i := 8) scBody.nd rfl (.inl rfl))
      (pss_one (ps_if (PW.pt (pw_and (pt_cmpR op_gt (pv 5) pe_int (nomark _)) (pw_and1 (pt_cmpR op_eq (pe_call GT hr1 rfl DT.m DT.fn.kp DT.b .nil pass0 (pa_cons (pv 0) (pa_cons pe_int pa_nil))) pe_int (nomark _)))))
        (pss_cons (ps_set (i := 9) scBody.nd rfl (.inl rfl) (pe_call G hr rfl F.m F.fn.kp F.b .nil pass0 (pa_cons (pv 0) (pa_cons (pv 1) (pa_cons (pv 2) (pa_cons (pv 3) (pa_cons (pe_op op_fdiv (pv 4) pe_int) (pa_cons (pe_op op_sub (pv 5) pe_int) (pa_cons (pv 6) pa_nil)))))))))
          (pss_one (ps_expr (pe_bm PySem.F.plainAttrs_list PySem.F.slot_list_append PySem.F.type_list_append mt_append (pv 7) (pa_cons (pe_tup (pa_cons pe_str
            (pa_cons (pe_call GO hr2 rfl DO.m DO.fn.kp DO.b .nil pass0 (pa_cons (pv 0) (pa_cons (pv 6) pa_nil))) (pa_cons (pv 9) pa_nil)))) pa_nil)))))
        (pss_one (ps_expr (pe_bm PySem.F.plainAttrs_list PySem.F.slot_list_append PySem.F.type_list_append mt_append (pv 7) (pa_cons (pe_call GI hr3 rfl DI.m DI.fn.kp DI.b .nil pass0 (pa_cons (pv 0) (pa_cons (pv 1) (pa_cons (pv 2) (pa_cons (pv 3) pa_nil))))) pa_nil)))))))
    (pss_one (ps_ret (pe_callTy call_tuple_of (by rfl) T.tuple (by decide +kernel) (pa_cons (pv 7) pa_nil))))), ?_⟩
  refine ⟨Nat.zero_le _, fun fo hfo => ?_⟩
  have e0 : Ext u H (upd H fo (.lst [])) := Ext.new hu hfo
  have hfu : fo ≠ u := (hu.ne hfo).symm
  refine ⟨.ref u, rfl, .int L, rfl, L, 1, rfl, rfl, u, (L : Int) + 1, rfl, e0.urn, by omega, by omega, fun r H1 e1 hr0 hrL => ?_⟩
  refine ⟨r, rfl, by omega, by omega, ?_⟩
  refine for_range (lo := 0) (n := r.toNat) (fun i σ H' => ∃ (xs : List V) (ls : List (List Pl)) (v8 v9 : Option V), σ = [some (.ref u), some (.int p), some (.int n), some (.ref a), some (.int L), some (.int D), some (.ref b), some (.ref fo), v8, v9] ∧
    Ext u H H' ∧ H' fo = some (.lst xs) ∧ Paired (ItI p n (Rep p n H' D) H') xs ls ∧ ls.flatten.length ≤ i * itB D L ∧ xs.length = i)
    ⟨[], [], none, none, rfl, e0.trans e1, e1.keep _ _ hfu upd_same, .nil, by simp, rfl⟩ ?_ ?_
  · rintro i σ H2 hi ⟨xs, ls, v8, v9, rfl, e2, h2, hp, hlen, hxl⟩
    have hiL : i < L := by omega
    have hsz : xs.length < sizeLine := small1000 (by omega)
    -- the end of a turn
    have turn : ∀ (t : Addr) (li : List Pl) (H3 : Hp) (v8 v9 : Option V), Ext u H2 H3 → ItI p n (Rep p n H3 D) H3 (.ref t) li → li.length ≤ itB D L → ∃ (xs' : List V) (ls' : List (List Pl)) (w8 w9 : Option V),
        ([some (.ref u), some (.int p), some (.int n), some (.ref a), some (.int L), some (.int D), some (.ref b), some (.ref fo), v8, v9] : St) = [some (.ref u), some (.int p), some (.int n), some (.ref a), some (.int L), some (.int D), some (.ref b), some (.ref fo), w8, w9] ∧
        Ext u H (upd H3 fo (.lst (xs ++ [.ref t]))) ∧ (upd H3 fo (.lst (xs ++ [.ref t]))) fo = some (.lst xs') ∧ Paired (ItI p n (Rep p n (upd H3 fo (.lst (xs ++ [.ref t]))) D) (upd H3 fo (.lst (xs ++ [.ref t])))) xs' ls' ∧
        ls'.flatten.length ≤ (i + 1) * itB D L ∧ xs'.length = i + 1 := by
      intro t li H3 v8 v9 e3 ht hl
      have h3 : H3 fo = some (.lst xs) := e3.keep _ _ hfu h2
      have k1 : Tups H2 (upd H3 fo (.lst (xs ++ [.ref t]))) := (e3.tups e2.urn).trans (tups_put h3)
      have k2 : Tups H3 (upd H3 fo (.lst (xs ++ [.ref t]))) := tups_put h3
      refine ⟨xs ++ [.ref t], ls ++ [li], v8, v9, rfl, (e2.trans e3).put hfo hfu, upd_same, ?_, ?_, ?_⟩
      · exact paired_app (paired_imp hp fun v l h => h.keep k1 (Rep.keep k1 D)) (.cons (ht.keep k2 (Rep.keep k2 D)) .nil)
      · rw [List.flatten_append, List.length_append, Nat.succ_mul]
        have : ([li] : List (List Pl)).flatten.length = li.length := by simp
        omega
      · rw [List.length_append]
        simp [hxl]
    -- deep > 0 and take == 0
    refine ⟨_, rfl, D, 0, rfl, rfl, _, rfl, ?_⟩
    have plain : ∀ (H3 : Hp), Ext u H2 H3 → ∃ (fo' : V), some (some (V.ref fo)) = some (some fo') ∧ tyV K "list" fo' H3 ∧ (tCall spItem [] E0 (tCons (tVar 0) (tCons (tVar 1) (tCons (tVar 2) (tCons (tVar 3) tNil))))) 
        [some (.ref u), some (.int p), some (.int n), some (.ref a), some (.int L), some (.int D), some (.ref b), some (.ref fo), some (.int (0 + i)), v9] H3 fun x H4 => rAppend fo' [x] H4 fun _ H5 =>
          ∃ (xs : List V) (ls : List (List Pl)) (v8 v9' : Option V), ([some (.ref u), some (.int p), some (.int n), some (.ref a), some (.int L), some (.int D), some (.ref b), some (.ref fo), some (.int (0 + i)), v9] : St) = [some (.ref u), some (.int p), some (.int n), some (.ref a), some (.int L), some (.int D), some (.ref b), some (.ref fo), v8, v9'] ∧
            Ext u H H5 ∧ H5 fo = some (.lst xs) ∧ Paired (ItI p n (Rep p n H5 D) H5) xs ls ∧ ls.flatten.length ≤ (i + 1) * itB D L ∧ xs.length = i + 1 := by
      intro H3 e3
      refine ⟨_, rfl, .inl ⟨rfl, _, .of (e3.keep _ _ hfu h2)⟩, .ref u, rfl, .int p, rfl, .int n, rfl, .ref a, rfl, u, a, p, n, rfl, e3.urn, hp1, hp2, hn1, hn2, hau, e3.keep _ _ hau (e2.keep _ _ hau ha), fun t pi H4 e4 ht hwf => ?_⟩
      refine ⟨fo, xs, _, rfl, rfl, (e3.trans e4).keep _ _ hfu h2, hsz, ?_⟩
      exact turn t [pi] H4 _ _ (e3.trans e4) (.inl ⟨pi, rfl, t, rfl, ht, hwf⟩) (itB_pos D L)
    cases D with
    | zero => exact iteB false (by decide) (iteF (iteF (plain H2 (Ext.refl e2.urn))))
    | succ D =>
      refine iteB true (decide_eq_true (by show (0 : Int) < ((D + 1 : Nat) : Int); omega)) (iteT ?_)
      refine ⟨.ref u, rfl, u, 4, rfl, e2.urn, by omega, by omega, fun r2 H3 e3 hr20 hr24 => ?_⟩
      refine ⟨rfl, _, rfl, ite2 (fun c => ?_) (fun c => ?_)⟩
      · -- inner = body(..)
        refine ⟨.ref u, rfl, .int p, rfl, .int n, rfl, .ref a, rfl, .int L, rfl, L, 2, rfl, rfl, ⟨by decide, by decide⟩, .int ((D + 1 : Nat) : Int), rfl, ((D + 1 : Nat) : Int), 1, rfl, rfl, .ref b, rfl, ?_⟩
        have eD : ((D + 1 : Nat) : Int) - 1 = (D : Int) := by omega
        refine ⟨u, a, b, p, n, L / 2, ?_, e3.urn, hp1, hp2, hn1, hn2, hau, e3.keep _ _ hau (e2.keep _ _ hau ha), hbu, e3.keep _ _ hbu (e2.keep _ _ hbu hb), by omega, fun t l H4 e4 hrep hll => ?_⟩
        · show [V.ref u, V.int p, V.int n, V.ref a, V.int ((L : Int) / 2), V.int (((D + 1 : Nat) : Int) - 1), V.ref b] = _
          rw [eD]
          rfl
        -- found.append(('loop', of(u, rounds), inner))
        have e34 : Ext u H2 H4 := e3.trans e4
        refine ⟨.ref fo, rfl, .inl ⟨rfl, _, .of (e34.keep _ _ hfu h2)⟩, .ref u, rfl, .ref b, rfl, u, b, roundsV, rfl, e4.urn, hbu, e34.keep _ _ hbu (e2.keep _ _ hbu hb), (by decide), (by decide), fun kx H5 e5 hk => ?_⟩
        obtain ⟨k, rfl, hk5⟩ := round_of hk
        refine ⟨.ref t, rfl, (by show 3 ≤ sizeLine; decide), fun tl htl => ?_⟩
        have e6 : Ext u H2 (upd H5 tl (.tup [.str "loop", .int k, .ref t])) := e34.trans (e5.trans (Ext.new e5.urn htl))
        refine ⟨fo, xs, _, rfl, rfl, e6.keep _ _ hfu h2, hsz, ?_⟩
        refine turn tl (List.replicate k l).flatten _ _ _ e6 (.inr ⟨tl, k, t, l, rfl, upd_same, Rep.keep ((e5.tups e4.urn).trans (tups_new htl)) (D + 1) t l hrep, Nat.le_trans hll (Nat.le_trans (bnd_small D (L / 2) (by omega)) (by decide)), rfl⟩) ?_
        rw [flat_rep_len]
        have : k * l.length ≤ 5 * bnd D (L / 2) := Nat.mul_le_mul hk5 hll
        exact Nat.le_trans this (Nat.le_max_right _ _)
      · exact plain H3 e3
  · rintro σ H2 ⟨xs, ls, v8, v9, rfl, e2, h2, hp, hlen, hxl⟩
    refine ⟨.ref fo, rfl, fo, xs, rfl, .inl ⟨.of h2, fun t ht => ?_⟩⟩
    refine q t ls.flatten _ (e2.trans (Ext.new e2.urn ht)) ⟨xs, ls, upd_same, paired_imp hp fun v l h => h.keep (tups_new ht) (Rep.keep (tups_new ht) D), rfl⟩ ?_
    rw [bnd_eq]
    exact Nat.le_trans hlen (Nat.mul_le_mul_right _ (by omega))
theorem body_all {f fT fO fI : Addr} {fd fdT fdO fdI : FuncData} (T : Txt mg) (F : DefAt K mg "_law_body" sBody pBody f fd) (DT : DefAt K mg "_law_take" sTake ["_law_urn_here", "_law_below"] fT fdT)
    (GT : FnOk P w K mg base CX0 1 fT fdT ["_law_urn_here", "_law_below"] spTake) (DO : DefAt K mg "_law_of" sOf ["_law_urn_here", "_law_items"] fO fdO)
    (GO : FnOk P w K mg base CX0 2 fO fdO ["_law_urn_here", "_law_items"] spOf) (DI : DefAt K mg "_law_item" sItem pItem fI fdI) (GI : FnOk P w K mg base CX0 3 fI fdI pItem spItem) :
    ∀ D : Nat, FnOk P w K mg base CX0 (3 + D + 1) f fd pBody (spBody D)
  | 0 => ok_body (D := 0) T F DT GT DO GO DI GI ⟨fun _ _ _ _ h => False.elim h, fun _ _ _ _ _ _ _ _ _ _ _ _ _ h => False.elim h⟩
  | D + 1 => ok_body (D := D + 1) T F DT GT DO GO DI GI (body_all T F DT GT DO GO DI GI D)
end
end K13
end
section
set_option maxRecDepth 100000
namespace K13
open PySem L2
/-! ## lists beside lists -/
theorem paired_get {α β : Type} {F : α → β → Prop} : ∀ {l : List α} {m : List β} {i : Nat} {x : α}, Paired F l m → l[i]? = some x → ∃ y, m[i]? = some y ∧ F x y
  | _, _, _, _, .nil, e => by simp at e
  | _, _, 0, x, .cons r _, e => by
    simp at e
    subst e
    exact ⟨_, rfl, r⟩
  | _, _, i + 1, x, .cons _ t, e => by
    obtain ⟨y, h1, h2⟩ := paired_get (i := i) (x := x) t (by simpa using e)
    exact ⟨y, by simpa using h1, h2⟩
theorem paired_len {α β : Type} {F : α → β → Prop} : ∀ {l : List α} {m : List β}, Paired F l m → l.length = m.length
  | _, _, .nil => rfl
  | _, _, .cons _ t => congrArg (· + 1) (paired_len t)
theorem paired_rep {α β : Type} {F : α → β → Prop} {l : List α} {m : List β} (h : Paired F l m) : ∀ k : Nat, Paired F (List.replicate k l).flatten (List.replicate k m).flatten
  | 0 => .nil
  | k + 1 => by
    rw [List.replicate_succ, List.replicate_succ, List.flatten_cons, List.flatten_cons]
    exact paired_app h (paired_rep h k)
theorem flat_step {α : Type} {ls : List (List α)} {i : Nat} {x : List α} (h : ls[i]? = some x) : (ls.take (i + 1)).flatten = (ls.take i).flatten ++ x := by
  rw [List.take_add_one, h]
  simp
theorem flat_le {α : Type} (ls : List (List α)) (i : Nat) : (ls.take i).flatten.length ≤ ls.flatten.length := by
  have e : ls.flatten = (ls.take i).flatten ++ (ls.drop i).flatten := by rw [← List.flatten_append, List.take_append_drop]
  rw [e, List.length_append]
  omega
theorem rep_step {α : Type} (k : Nat) (l : List α) : (List.replicate (k + 1) l).flatten = (List.replicate k l).flatten ++ l := by
  rw [List.replicate_succ']
  simp
theorem same_put {H H' : Hp} {p : Addr} {o : HO} (s : Same H H') (n : H p = none) : Same H (L2.upd H' p o) := fun b z e => by
  rw [upd_ne (ne_of_none e n)]
  exact s b z e
/-! ## instructions as data -/
def Pl.word : Pl → Str
  | .set _ _ => "set"
  | .copy _ _ => "copy"
  | .add _ _ _ => "add"
  | .scale _ _ => "scale"
  | .swap _ _ => "swap"
  | .read _ => "read"
  | .write _ => "write"
theorem Pl.at0 (i : Pl) : i.vals[0]? = some (.str i.word) := by cases i <;> rfl
theorem Pl.noloop (i : Pl) : decide (V.str i.word = V.str "loop") = false := by
  cases i
  · show decide (V.str "set" = V.str "loop") = false; decide +kernel
  · show decide (V.str "copy" = V.str "loop") = false; decide +kernel
  · show decide (V.str "add" = V.str "loop") = false; decide +kernel
  · show decide (V.str "scale" = V.str "loop") = false; decide +kernel
  · show decide (V.str "swap" = V.str "loop") = false; decide +kernel
  · show decide (V.str "read" = V.str "loop") = false; decide +kernel
  · show decide (V.str "write" = V.str "loop") = false; decide +kernel
def Pl.data : Pl → PyData
  | .set x c => .tuple [.str "set", .int x, .int c]
  | .copy x y => .tuple [.str "copy", .int x, .int y]
  | .add x y c => .tuple [.str "add", .int x, .int y, .int c]
  | .scale x c => .tuple [.str "scale", .int x, .int c]
  | .swap x y => .tuple [.str "swap", .int x, .int y]
  | .read x => .tuple [.str "read", .int x]
  | .write x => .tuple [.str "write", .int x]
theorem PlI.dp {K : PySem.W.Frag} {p : Int} {n : Nat} {H : Hp} {v : V} {i : Pl} (h : PlI p n H v i) : Dp K H v i.data := by
  obtain ⟨t, rfl, ht, _⟩ := h
  cases i with
  | set x c => exact .tup (.of ht) (.cons (.str _) (.cons (.int _) (.cons (.int _) .nil)))
  | copy x y => exact .tup (.of ht) (.cons (.str _) (.cons (.int _) (.cons (.int _) .nil)))
  | add x y c => exact .tup (.of ht) (.cons (.str _) (.cons (.int _) (.cons (.int _) (.cons (.int _) .nil))))
  | scale x c => exact .tup (.of ht) (.cons (.str _) (.cons (.int _) (.cons (.int _) .nil)))
  | swap x y => exact .tup (.of ht) (.cons (.str _) (.cons (.int _) (.cons (.int _) .nil)))
  | read x => exact .tup (.of ht) (.cons (.str _) (.cons (.int _) .nil))
  | write x => exact .tup (.of ht) (.cons (.str _) (.cons (.int _) .nil))
theorem dp_all {K : PySem.W.Frag} {p : Int} {n : Nat} {H : Hp} : ∀ {vs : List V} {l : List Pl}, Paired (PlI p n H) vs l → DpAll K H vs (l.map Pl.data)
  | _, _, .nil => .nil
  | _, _, .cons r t => .cons r.dp (dp_all t)
theorem Pl.lay (i : Pl) : i.data.canLay0 = true ∧ i.data.depth = 1 := by
  have e1 : PyData.strOk "set" = true := by decide +kernel
  have e2 : PyData.strOk "copy" = true := by decide +kernel
  have e3 : PyData.strOk "add" = true := by decide +kernel
  have e4 : PyData.strOk "scale" = true := by decide +kernel
  have e5 : PyData.strOk "swap" = true := by decide +kernel
  have e6 : PyData.strOk "read" = true := by decide +kernel
  have e7 : PyData.strOk "write" = true := by decide +kernel
  cases i <;> simp [Pl.data, PyData.canLay0, PyData.canLayAll0, PyData.depth, PyData.depthAll, e1, e2, e3, e4, e5, e6, e7]
theorem lay_all : ∀ l : List Pl, PyData.canLayAll0 (l.map Pl.data) = true ∧ PyData.depthAll (l.map Pl.data) ≤ 1
  | [] => by simp [PyData.canLayAll0, PyData.depthAll]
  | i :: l => by
    have h := lay_all l
    have h2 := i.lay
    simp only [List.map_cons, PyData.canLayAll0, PyData.depthAll, h.1, h2.1, h2.2, Bool.and_self, true_and]
    omega
theorem shaped_list (l : List Pl) : SeqAt.shaped (.list (l.map Pl.data)) = true := by
  have h := lay_all l
  refine Bool.and_eq_true_iff.mpr ⟨?_, decide_eq_true ?_⟩
  · simp only [PyData.canLay0, h.1]
  · have h2 := h.2
    simp only [PyData.depth]
    omega
theorem shaped_nil : SeqAt.shaped (.list []) = true := shaped_list []
theorem shaped_unit : SeqAt.shaped (.tuple []) = true := by simp [SeqAt.shaped, PyData.canLay0, PyData.canLayAll0, PyData.depth, PyData.depthAll]
theorem eqv_nil : ∀ l : List Pl, PyData.eqv (.list (l.map Pl.data)) (.list []) = l.isEmpty
  | [] => by simp [PyData.eqv, PyData.eqvAll]
  | _ :: _ => by simp [PyData.eqv, PyData.eqvAll]
theorem eqv_unit : PyData.eqv (.tuple []) (.tuple []) = true := by simp [PyData.eqv, PyData.eqvAll]
/-- a module's text, a module's number -/
theorem pe_txt {X : Cx} {x z : Str} {t : Tok} {pos : Pos} (hg : Gl X x) (hm : X.mg x = some (.str z t)) (hd : (x == ("__debug__" : Str)) = false := by decide) : PE X (.Name x pos) (tC (.str z)) := pe_glob hg hm ⟨t, rfl⟩ hd
theorem pe_num {X : Cx} {x : Str} {z : Int} {t : Tok} {pos : Pos} (hg : Gl X x) (hm : X.mg x = some (.int z t)) (hd : (x == ("__debug__" : Str)) = false := by decide) : PE X (.Name x pos) (tC (.int z)) := pe_glob hg hm ⟨t, rfl⟩ hd
section
variable {P : Program} {w : World} {K : PySem.W.Frag} {mg : Str → Option Value} {base : Heap}
/-! ## the executed instructions, by the law -/
abbrev sLexec : Stmt := topS 27
theorem scLexec : FnScope ["_law_program", "_law_found", "_law_item_here", "_law_body_here", "_law_turn"] ["_law_program"] (defScope sLexec) := ⟨rfl, rfl, rfl, by decide +kernel, rfl, by decide +kernel, by decide +kernel⟩
def spExec (d : Nat) : Sp := fun vs H Q _ => ∃ (a : Addr) (p : Int) (n : Nat) (l : List Pl), vs = [.ref a] ∧ Rep p n H d a l ∧ l.length ≤ 1000 ∧
  ∀ (r : Addr) (xs : List V) (H' : Hp), Same H H' → H r = none → H' r = some (.lst xs) → Paired (PlI p n H') xs l → Q (.ref r) H'
theorem ok_lexec {d : Nat} {f : Addr} {fd : FuncData} (T : Txt mg) (F : DefAt K mg "_law_executed" sLexec ["_law_program"] f fd) (G : FnOk P w K mg base CX0 d f fd ["_law_program"] (spExec d)) :
    FnOk P w K mg base CX0 (d + 1) f fd ["_law_program"] (spExec (d + 1)) := by
  refine F.fn.ok scLexec (fun vs H Q E h => ?_) (fun cdv A outer s H vs Q E hr h => ?_)
  · obtain ⟨a, p, n, l, rfl, _⟩ := h
    rfl
  obtain ⟨a, p, n, l, rfl, ⟨xs, ls, ha, hp, rfl⟩, hlen, q⟩ := h
  refine ⟨_, pss_cons (ps_set (i := 1) scLexec.nd rfl (.inl rfl) (pe_lst pa_nil))
    (pss_cons (ps_for PassesOwn.never rfl (pi_tup (pv 0)) (pg_name (i := 2) scLexec.nd rfl (.inl rfl))
      (pss_one (ps_if (pt_cmpR op_eq (pe_ix ix_tup (pv 2) pe_int (fun _ _ => rfl)) pe_str (nomark _))
        (pss_cons (ps_set (i := 3) scLexec.nd rfl (.inl rfl) (pe_call G hr rfl F.m F.fn.kp F.b .nil pass0 (pa_cons (pe_ix ix_tup (pv 2) pe_int (fun _ _ => rfl)) pa_nil)))
          (pss_one (ps_for PassesOwn.never rfl (pi_range1 rfl T.range (pa_cons (pe_op op_mul (pe_ix ix_tup (pv 2) pe_int (fun _ _ => rfl))
              (pe_callTy call_int1 (by rfl) T.int (by decide +kernel) (pa_cons (pe_cmpR (op_neD hr.units) (pv 3) (pe_lst pa_nil) (nomark _)) pa_nil))) pa_nil)) (pg_name (i := 4) scLexec.nd rfl (.inl rfl))
            (pss_one (ps_expr (pe_bm PySem.F.plainAttrs_list PySem.F.slot_list_extend PySem.F.type_list_extend mt_extend (pv 1) (pa_cons (pv 3) pa_nil)))))))
        (pss_one (ps_expr (pe_bm PySem.F.plainAttrs_list PySem.F.slot_list_append PySem.F.type_list_append mt_append (pv 1) (pa_cons (pv 2) pa_nil)))))))
    (pss_one (ps_ret (pv 1)))), ?_⟩
  refine ⟨Nat.zero_le _, fun fo hfo => ?_⟩
  have s0 : Same H (upd H fo (.lst [])) := new_same hfo
  refine ⟨.ref a, rfl, a, rfl, ⟨xs, .of (s0 _ _ ha)⟩, ?_⟩
  refine for_tup (K := K) (a := a) (xs := xs) (fun i σ H' => ∃ (vs : List V) (v2 v3 v4 : Option V), σ = [some (.ref a), some (.ref fo), v2, v3, v4] ∧ Same H H' ∧ H' fo = some (.lst vs) ∧ Paired (PlI p n H') vs (ls.take i).flatten)
    ⟨[], none, none, none, rfl, s0, upd_same, .nil⟩ (fun i σ H' _ h => ?_) ?_ ?_
  · obtain ⟨_, _, _, _, _, s1, _⟩ := h
    exact .of (s1 _ _ ha)
  · rintro i x σ H1 hx ⟨vs, v2, v3, v4, rfl, s1, h1, pv1⟩
    obtain ⟨li, hli, hit⟩ := paired_get hp hx
    have hstep := flat_step hli
    have hle := flat_le ls (i + 1)
    rw [hstep, List.length_append] at hle
    have hvl := paired_len pv1
    rcases hit with ⟨pi, rfl, t, rfl, ht, hwf⟩ | ⟨t, k, b, lb, rfl, ht, hb, hlb, rfl⟩
    · have ht1 := s1 _ _ ht
      refine ⟨.ref t, rfl, t, _, 0, _, rfl, rfl, .of ht1, atI_nat (j := 0) pi.at0, rfl, _, rfl, iteB false pi.noloop (iteF ?_)⟩
      refine ⟨.ref fo, rfl, .inl ⟨rfl, _, .of h1⟩, .ref t, rfl, fo, vs, _, rfl, rfl, h1, small1000 (by omega), ?_⟩
      refine ⟨_, _, _, _, rfl, same_put s1 hfo, upd_same, ?_⟩
      rw [hstep]
      exact paired_app (paired_imp pv1 fun v j h => h.keep (tups_put h1)) (.cons ⟨t, rfl, tups_put h1 _ _ ht1, hwf⟩ .nil)
    · have ht1 := s1 _ _ ht
      refine ⟨.ref t, rfl, t, _, 0, _, rfl, rfl, .of ht1, atI_nat (j := 0) rfl, rfl, _, rfl, iteB true (decide_eq_true rfl) (iteT ?_)⟩
      have hll : k * lb.length ≤ 1000 := by
        rw [flat_rep_len] at hle
        omega
      -- the body
      refine ⟨.ref t, rfl, t, _, 2, _, rfl, rfl, .of ht1, atI_nat (j := 2) rfl, b, p, n, lb, rfl, Rep.keep (Tups.of_same s1) d b lb hb, hlb, fun r ys H2 s2 hr0 hr2 pv2 => ?_⟩
      have ht2 := s2 _ _ ht1
      have h2 : H2 fo = some (.lst vs) := s2 _ _ h1
      have hrf : fo ≠ r := ne_of_none h1 hr0
      have hyl := paired_len pv2
      -- item[1] * int(body != [])
      refine ⟨.ref t, rfl, t, _, 1, _, rfl, rfl, .of ht2, atI_nat (j := 1) rfl, .ref r, rfl, Nat.zero_le _, fun e he => ?_⟩
      have s3 : Same H2 (upd H2 e (.lst [])) := new_same he
      refine ⟨.list (lb.map Pl.data), .list [], .lst (.of (s3 _ _ hr2)) (dp_all (paired_imp pv2 fun v j h => h.keep (Tups.of_same s3))), .lst (.of upd_same) .nil, shaped_list lb, shaped_nil, ?_⟩
      refine .inr ⟨_, rfl, k, _, rfl, rfl, .inr ?_, ?_⟩
      · cases PyData.eqv (.list (lb.map Pl.data)) (.list []) <;> exact ⟨by decide, by decide⟩
      -- the rounds
      obtain ⟨m, hm, hmk⟩ : ∃ m : Nat, ((k : Int) * (if (!PyData.eqv (.list (lb.map Pl.data)) (.list [])) = true then 1 else 0) = (m : Int)) ∧ (List.replicate m lb).flatten = (List.replicate k lb).flatten ∧ m ≤ 1000 := by
        rw [eqv_nil]
        cases lb with
        | nil => exact ⟨0, by simp, by simp, by decide⟩
        | cons z lb =>
          refine ⟨k, by simp, rfl, ?_⟩
          rw [List.length_cons] at hll
          have : k * 1 ≤ k * (lb.length + 1) := Nat.mul_le_mul_left _ (by omega)
          omega
      refine ⟨_, rfl, by show -(2 ^ 62) ≤ (k : Int) * _; rw [hm]; omega, by show (k : Int) * _ < 2 ^ 62; rw [hm]; omega, ?_⟩
      have em : ((k : Int) * (if (!PyData.eqv (.list (lb.map Pl.data)) (.list [])) = true then 1 else 0)).toNat = m := by rw [hm]; omega
      rw [em]
      refine for_range (lo := 0) (n := m) (fun j σ H' => ∃ (zs : List V) (v4 : Option V), σ = [some (.ref a), some (.ref fo), some (.ref t), some (.ref r), v4] ∧ Same H H' ∧ H' r = some (.lst ys) ∧ H' fo = some (.lst zs) ∧ Paired (PlI p n H') zs ((ls.take i).flatten ++ (List.replicate j lb).flatten) ∧ Paired (PlI p n H') ys lb)
        ⟨vs, v4, rfl, s1.trans (s2.trans s3), s3 _ _ hr2, s3 _ _ h2, by simpa using paired_imp pv1 fun v j h => h.keep (Tups.of_same (s2.trans s3)), paired_imp pv2 fun v j h => h.keep (Tups.of_same s3)⟩ ?_ ?_
      · rintro j σ H4 hj ⟨zs, v4, rfl, s4, h4r, h4, pz, py⟩
        have hzl := paired_len pz
        have hmj : j * lb.length ≤ 1000 := by
          have h5 : (List.replicate m lb).flatten.length ≤ 1000 := by rw [hmk.1, flat_rep_len]; exact hll
          rw [flat_rep_len] at h5
          exact Nat.le_trans (Nat.mul_le_mul_right _ (by omega)) h5
        have hj1 : (j + 1) * lb.length ≤ k * lb.length := by
          have h5 : (List.replicate m lb).flatten.length = (List.replicate k lb).flatten.length := by rw [hmk.1]
          rw [flat_rep_len, flat_rep_len] at h5
          exact h5 ▸ Nat.mul_le_mul_right _ (by omega)
        rw [Nat.succ_mul] at hj1
        rw [flat_rep_len] at hle
        rw [List.length_append, flat_rep_len] at hzl
        refine ⟨.ref fo, rfl, .inl ⟨rfl, _, .of h4⟩, .ref r, rfl, fo, r, zs, ys, rfl, rfl, h4, h4r, Nat.le_of_lt (small1000 ?_), ?_⟩
        · omega
        · refine ⟨_, _, rfl, same_put s4 hfo, ?_, upd_same, ?_, paired_imp py fun v j h => h.keep (tups_put h4)⟩
          · rw [upd_ne hrf.symm]
            exact h4r
          · rw [rep_step, ← List.append_assoc]
            exact paired_app (paired_imp pz fun v j h => h.keep (tups_put h4)) (paired_imp py fun v j h => h.keep (tups_put h4))
      · rintro σ H4 ⟨zs, v4, rfl, s4, h4r, h4, pz, py⟩
        refine ⟨zs, _, _, _, rfl, s4, h4, ?_⟩
        rw [hstep, ← hmk.1]
        exact pz
  · rintro σ H1 ⟨vs, v2, v3, v4, rfl, s1, h1, pv1⟩
    refine ⟨.ref fo, rfl, q fo vs H1 s1 hfo h1 ?_⟩
    rw [List.take_of_length_le (by rw [paired_len hp]; exact Nat.le_refl _)] at pv1
    exact pv1
theorem lexec_all {f : Addr} {fd : FuncData} (T : Txt mg) (F : DefAt K mg "_law_executed" sLexec ["_law_program"] f fd) : ∀ d : Nat, FnOk P w K mg base CX0 d f fd ["_law_program"] (spExec d)
  | 0 => by
    have no : ∀ vs H Q E, ¬ spExec 0 vs H Q E := fun vs H Q E h => by
      obtain ⟨a, p, n, l, _, h, _⟩ := h
      exact h
    exact ⟨fun vs H Q E h => absurd h (no vs H Q E), fun A outer s H args us vs Q E _ _ _ _ h => absurd h (no vs H Q E)⟩
  | d + 1 => ok_lexec T F (lexec_all T F d)
/-! ## times -/
abbrev sTimes : Stmt := topS 12
theorem scTimes : FnScope ["program", "words", "found", "item"] ["program", "words"] (defScope sTimes) := ⟨rfl, rfl, rfl, by decide +kernel, rfl, by decide +kernel, by decide +kernel⟩
def spTimes (d : Nat) : Sp := fun vs H Q _ => ∃ (a wd : Addr) (p : Int) (n : Nat) (l : List Pl), vs = [.ref a, .ref wd] ∧ H wd = some (.tup []) ∧ Rep p n H d a l ∧ l.length ≤ 1000 ∧ ∀ H' : Hp, Same H H' → Q (.int l.length) H'
theorem ok_times {d : Nat} {f : Addr} {fd : FuncData} (T : Txt mg) (F : DefAt K mg "times" sTimes ["program", "words"] f fd) (G : FnOk P w K mg base CX0 d f fd ["program", "words"] (spTimes d)) :
    FnOk P w K mg base CX0 (d + 1) f fd ["program", "words"] (spTimes (d + 1)) := by
  obtain ⟨tL, hL⟩ := T.lOOP
  refine F.fn.ok scTimes (fun vs H Q E h => ?_) (fun cdv A outer s H vs Q E hr h => ?_)
  · obtain ⟨a, wd, p, n, l, rfl, _⟩ := h
    rfl
  obtain ⟨a, wd, p, n, l, rfl, hwd, ⟨xs, ls, ha, hp, rfl⟩, hlen, q⟩ := h
  refine ⟨_, pss_cons (ps_set (i := 2) scTimes.nd rfl (.inl rfl) pe_int)
    (pss_cons (ps_for PassesOwn.never rfl (pi_tup (pv 0)) (pg_name (i := 3) scTimes.nd rfl (.inl rfl))
      (pss_one (ps_if (pt_cmpR op_eq (pe_ix ix_tup (pv 3) pe_int (fun _ _ => rfl)) (pe_txt rfl hL) (nomark _))
        (pss_one (ps_aug (i := 2) scTimes.nd rfl (.inl rfl) (pe_op op_mul (pe_ix ix_tup (pv 3) pe_int (fun _ _ => rfl))
          (pe_call G hr rfl F.m F.fn.kp F.b .nil pass0 (pa_cons (pe_ix ix_tup (pv 3) pe_int (fun _ _ => rfl)) (pa_cons (pv 1) pa_nil)))) ip_add))
        (pss_one (ps_if (PW.pt (pw_or (pt_cmpR (op_eqD hr.units) (pv 1) (pe_tup pa_nil) (nomark _)) (pw_or1 (pt_cmpR op_in_seq (pe_ix ix_tup (pv 3) pe_int (fun _ _ => rfl)) (pv 1) rfl))))
          (pss_one (ps_aug (i := 2) scTimes.nd rfl (.inl rfl) pe_int ip_add)) pss_nil)))))
    (pss_one (ps_ret (pv 2)))), ?_⟩
  refine ⟨.ref a, rfl, a, rfl, ⟨xs, .of ha⟩, ?_⟩
  refine for_tup (K := K) (a := a) (xs := xs) (fun i σ H' => ∃ (v3 : Option V), σ = [some (.ref a), some (.ref wd), some (.int ((ls.take i).flatten.length : Nat)), v3] ∧ Same H H')
    ⟨none, rfl, Same.refl H⟩ (fun i σ H' _ h => ?_) ?_ ?_
  · obtain ⟨_, _, s1⟩ := h
    exact .of (s1 _ _ ha)
  · rintro i x σ H1 hx ⟨v3, rfl, s1⟩
    obtain ⟨li, hli, hit⟩ := paired_get hp hx
    have hstep := flat_step hli
    have hle := flat_le ls (i + 1)
    rw [hstep, List.length_append] at hle
    rcases hit with ⟨pi, rfl, t, rfl, ht, hwf⟩ | ⟨t, k, b, lb, rfl, ht, hb, hlb, rfl⟩
    · have ht1 := s1 _ _ ht
      refine ⟨.ref t, rfl, t, _, 0, _, rfl, rfl, .of ht1, atI_nat (j := 0) pi.at0, rfl, _, rfl, iteB false pi.noloop (iteF ?_)⟩
      refine ⟨.ref wd, rfl, Nat.zero_le _, fun e he => ?_⟩
      refine ⟨.tuple [], .tuple [], .tup (.of (new_same he _ _ (s1 _ _ hwd))) .nil, .tup (.of upd_same) .nil, shaped_unit, shaped_unit, _, rfl, iteB true eqv_unit (iteT (iteT ?_))⟩
      refine ⟨_, rfl, _, 1, rfl, rfl, some (.ref t), ?_, s1.trans (new_same he)⟩
      rw [hstep, List.length_append]
      rfl
    · have ht1 := s1 _ _ ht
      refine ⟨.ref t, rfl, t, _, 0, _, rfl, rfl, .of ht1, atI_nat (j := 0) rfl, rfl, _, rfl, iteB true (decide_eq_true rfl) (iteT ?_)⟩
      refine ⟨_, rfl, .ref t, rfl, t, _, 1, _, rfl, rfl, .of ht1, atI_nat (j := 1) rfl, .ref t, rfl, t, _, 2, _, rfl, rfl, .of ht1, atI_nat (j := 2) rfl, .ref wd, rfl, b, wd, p, n, lb, rfl, s1 _ _ hwd, Rep.keep (Tups.of_same s1) d b lb hb, hlb, fun H2 s2 => ?_⟩
      refine ⟨k, lb.length, rfl, rfl, .inr ⟨by omega, by omega⟩, _, _, rfl, rfl, some (.ref t), ?_, s1.trans s2⟩
      rw [hstep, List.length_append, flat_rep_len]
      show [some (V.ref a), some (V.ref wd), some (V.int (((ls.take i).flatten.length : Nat) + (k : Int) * (lb.length : Nat))), some (V.ref t)] = _
      rw [Int.natCast_add, Int.natCast_mul]
  · rintro σ H1 ⟨v3, rfl, s1⟩
    refine ⟨_, rfl, ?_⟩
    rw [List.take_of_length_le (by rw [paired_len hp]; exact Nat.le_refl _)]
    exact q H1 s1
theorem times_all {f : Addr} {fd : FuncData} (T : Txt mg) (F : DefAt K mg "times" sTimes ["program", "words"] f fd) : ∀ d : Nat, FnOk P w K mg base CX0 d f fd ["program", "words"] (spTimes d)
  | 0 => by
    have no : ∀ vs H Q E, ¬ spTimes 0 vs H Q E := fun vs H Q E h => by
      obtain ⟨a, wd, p, n, l, _, _, h, _⟩ := h
      exact h
    exact ⟨fun vs H Q E h => absurd h (no vs H Q E), fun A outer s H args us vs Q E _ _ _ _ h => absurd h (no vs H Q E)⟩
  | d + 1 => ok_times T F (times_all T F d)
abbrev sSteps : Stmt := topS 13
theorem scSteps : FnScope ["program"] ["program"] (defScope sSteps) := ⟨rfl, rfl, rfl, by decide +kernel, rfl, by decide +kernel, by decide +kernel⟩
def spSteps (d : Nat) : Sp := fun vs H Q _ => ∃ (a : Addr) (p : Int) (n : Nat) (l : List Pl), vs = [.ref a] ∧ Rep p n H d a l ∧ l.length ≤ 1000 ∧ ∀ H' : Hp, Same H H' → Q (.int l.length) H'
theorem ok_steps {d : Nat} {f fT : Addr} {fd fdT : FuncData} (F : Fun K "step_count" "step_count" sSteps f fd) (DT : DefAt K mg "times" sTimes ["program", "words"] fT fdT)
    (G : FnOk P w K mg base CX0 d fT fdT ["program", "words"] (spTimes d)) : FnOk P w K mg base CX0 (d + 1) f fd ["program"] (spSteps d) := by
  refine F.ok scSteps (fun vs H Q E h => ?_) (fun cdv A outer s H vs Q E hr h => ?_)
  · obtain ⟨a, p, n, l, rfl, _⟩ := h
    rfl
  obtain ⟨a, p, n, l, rfl, hrep, hlen, q⟩ := h
  refine ⟨_, pss_one (ps_ret (pe_call G hr rfl DT.m DT.fn.kp DT.b .nil pass0 (pa_cons (pv 0) (pa_cons (pe_tup pa_nil) pa_nil)))), ?_⟩
  refine ⟨.ref a, rfl, Nat.zero_le _, fun e he => ?_⟩
  exact ⟨a, e, p, n, l, rfl, upd_same, Rep.keep (tups_new he) d a l hrep, hlen, fun H' s1 => q H' ((new_same he).trans s1)⟩
/-! ## the executed instructions, by the program -/
abbrev sExec : Stmt := topS 17
theorem scExec : FnScope ["program", "found", "item", "body"] ["program"] (defScope sExec) := ⟨rfl, rfl, rfl, by decide +kernel, rfl, by decide +kernel, by decide +kernel⟩
theorem ok_exec {d : Nat} {f : Addr} {fd : FuncData} (T : Txt mg) (F : DefAt K mg "executed" sExec ["program"] f fd) (G : FnOk P w K mg base CX0 d f fd ["program"] (spExec d)) :
    FnOk P w K mg base CX0 (d + 1) f fd ["program"] (spExec (d + 1)) := by
  obtain ⟨tL, hL⟩ := T.lOOP
  refine F.fn.ok scExec (fun vs H Q E h => ?_) (fun cdv A outer s H vs Q E hr h => ?_)
  · obtain ⟨a, p, n, l, rfl, _⟩ := h
    rfl
  obtain ⟨a, p, n, l, rfl, ⟨xs, ls, ha, hp, rfl⟩, hlen, q⟩ := h
  refine ⟨_, pss_cons (ps_set (i := 1) scExec.nd rfl (.inl rfl) (pe_lst pa_nil))
    (pss_cons (ps_for PassesOwn.never rfl (pi_tup (pv 0)) (pg_name (i := 2) scExec.nd rfl (.inl rfl))
      (pss_one (ps_if (pt_cmpR op_eq (pe_ix ix_tup (pv 2) pe_int (fun _ _ => rfl)) (pe_txt rfl hL) (nomark _))
        (pss_cons (ps_set (i := 3) scExec.nd rfl (.inl rfl) (pe_call G hr rfl F.m F.fn.kp F.b .nil pass0 (pa_cons (pe_ix ix_tup (pv 2) pe_int (fun _ _ => rfl)) pa_nil)))
          (pss_one (ps_expr (pe_bm PySem.F.plainAttrs_list PySem.F.slot_list_extend PySem.F.type_list_extend mt_extend (pv 1)
            (pa_cons (pe_ifExp (pt_cmpR (op_neD hr.units) (pv 3) (pe_lst pa_nil) (nomark _)) (pe_op op_rep (pv 3) (pe_ix ix_tup (pv 2) pe_int (fun _ _ => rfl))) (pe_lst pa_nil)) pa_nil)))))
        (pss_one (ps_expr (pe_bm PySem.F.plainAttrs_list PySem.F.slot_list_append PySem.F.type_list_append mt_append (pv 1) (pa_cons (pv 2) pa_nil)))))))
    (pss_one (ps_ret (pv 1)))), ?_⟩
  refine ⟨Nat.zero_le _, fun fo hfo => ?_⟩
  have s0 : Same H (upd H fo (.lst [])) := new_same hfo
  refine ⟨.ref a, rfl, a, rfl, ⟨xs, .of (s0 _ _ ha)⟩, ?_⟩
  refine for_tup (K := K) (a := a) (xs := xs) (fun i σ H' => ∃ (vs : List V) (v2 v3 : Option V), σ = [some (.ref a), some (.ref fo), v2, v3] ∧ Same H H' ∧ H' fo = some (.lst vs) ∧ Paired (PlI p n H') vs (ls.take i).flatten)
    ⟨[], none, none, rfl, s0, upd_same, .nil⟩ (fun i σ H' _ h => ?_) ?_ ?_
  · obtain ⟨_, _, _, _, s1, _⟩ := h
    exact .of (s1 _ _ ha)
  · rintro i x σ H1 hx ⟨vs, v2, v3, rfl, s1, h1, pv1⟩
    obtain ⟨li, hli, hit⟩ := paired_get hp hx
    have hstep := flat_step hli
    have hle := flat_le ls (i + 1)
    rw [hstep, List.length_append] at hle
    have hvl := paired_len pv1
    rcases hit with ⟨pi, rfl, t, rfl, ht, hwf⟩ | ⟨t, k, b, lb, rfl, ht, hb, hlb, rfl⟩
    · have ht1 := s1 _ _ ht
      refine ⟨.ref t, rfl, t, _, 0, _, rfl, rfl, .of ht1, atI_nat (j := 0) pi.at0, rfl, _, rfl, iteB false pi.noloop (iteF ?_)⟩
      refine ⟨.ref fo, rfl, .inl ⟨rfl, _, .of h1⟩, .ref t, rfl, fo, vs, _, rfl, rfl, h1, small1000 (by omega), ?_⟩
      refine ⟨_, _, _, rfl, same_put s1 hfo, upd_same, ?_⟩
      rw [hstep]
      exact paired_app (paired_imp pv1 fun v j h => h.keep (tups_put h1)) (.cons ⟨t, rfl, tups_put h1 _ _ ht1, hwf⟩ .nil)
    · have ht1 := s1 _ _ ht
      refine ⟨.ref t, rfl, t, _, 0, _, rfl, rfl, .of ht1, atI_nat (j := 0) rfl, rfl, _, rfl, iteB true (decide_eq_true rfl) (iteT ?_)⟩
      have hll : k * lb.length ≤ 1000 := by
        rw [flat_rep_len] at hle
        omega
      refine ⟨.ref t, rfl, t, _, 2, _, rfl, rfl, .of ht1, atI_nat (j := 2) rfl, b, p, n, lb, rfl, Rep.keep (Tups.of_same s1) d b lb hb, hlb, fun r ys H2 s2 hr0 hr2 pv2 => ?_⟩
      have ht2 := s2 _ _ ht1
      have h2 : H2 fo = some (.lst vs) := s2 _ _ h1
      have hyl := paired_len pv2
      -- found.extend(..)
      refine ⟨.ref fo, rfl, .inl ⟨rfl, _, .of h2⟩, .ref r, rfl, Nat.zero_le _, fun e he => ?_⟩
      have s3 : Same H2 (upd H2 e (.lst [])) := new_same he
      refine ⟨.list (lb.map Pl.data), .list [], .lst (.of (s3 _ _ hr2)) (dp_all (paired_imp pv2 fun v j h => h.keep (Tups.of_same s3))), .lst (.of upd_same) .nil, shaped_list lb, shaped_nil, _, rfl, ?_⟩
      -- behind it
      have fin : ∀ (H4 : Hp) (g : Addr) (zs : List V), Same H2 H4 → H4 g = some (.lst zs) → Paired (PlI p n H4) zs (List.replicate k lb).flatten → ∃ l b xs zs, V.ref fo = .ref l ∧ [V.ref g] = [.ref b] ∧ H4 l = some (.lst xs) ∧ H4 b = some (.lst zs) ∧ xs.length + zs.length ≤ sizeLine ∧
          ∃ (vs : List V) (v2 v3 : Option V), ([some (.ref a), some (.ref fo), some (.ref t), some (.ref r)] : St) = [some (.ref a), some (.ref fo), v2, v3] ∧ Same H (upd H4 l (.lst (xs ++ zs))) ∧ (upd H4 l (.lst (xs ++ zs))) fo = some (.lst vs) ∧
            Paired (PlI p n (upd H4 l (.lst (xs ++ zs)))) vs (ls.take (i + 1)).flatten := by
        intro H4 g zs s4 hg pz
        have h4 := s4 _ _ h2
        have hzl := paired_len pz
        refine ⟨fo, g, vs, zs, rfl, rfl, h4, hg, Nat.le_of_lt (small1000 (by omega)), _, _, _, rfl, same_put (s1.trans (s2.trans s4)) hfo, upd_same, ?_⟩
        rw [hstep]
        exact paired_app (paired_imp pv1 fun v j h => h.keep ((Tups.of_same (s2.trans s4)).trans (tups_put h4))) (paired_imp pz fun v j h => h.keep (tups_put h4))
      rw [eqv_nil]
      cases lb with
      | nil =>
        refine iteF ⟨Nat.zero_le _, fun g hg => fin _ g [] (s3.trans (new_same hg)) upd_same ?_⟩
        rw [show (List.replicate k ([] : List Pl)).flatten = [] by simp]
        exact .nil
      | cons z lb =>
        have hk : k ≤ 1000 := by
          rw [List.length_cons] at hll
          have : k * 1 ≤ k * (lb.length + 1) := Nat.mul_le_mul_left _ (by omega)
          omega
        refine iteT ⟨.ref r, rfl, .ref t, rfl, t, _, 1, _, rfl, rfl, .of (s3 _ _ ht2), atI_nat (j := 1) rfl, r, k, ys, rfl, rfl, s3 _ _ hr2, by omega, by omega, ?_, fun g hg => ?_⟩
        · rw [Int.toNat_natCast, hyl, Nat.mul_comm]
          exact Nat.le_of_lt (small1000 hll)
        · refine fin _ g _ (s3.trans (new_same hg)) upd_same ?_
          rw [Int.toNat_natCast]
          exact paired_rep (paired_imp pv2 fun v j h => h.keep (Tups.of_same (s3.trans (new_same hg)))) k
  · rintro σ H1 ⟨vs, v2, v3, rfl, s1, h1, pv1⟩
    refine ⟨.ref fo, rfl, q fo vs H1 s1 hfo h1 ?_⟩
    rw [List.take_of_length_le (by rw [paired_len hp]; exact Nat.le_refl _)] at pv1
    exact pv1
theorem exec_all {f : Addr} {fd : FuncData} (T : Txt mg) (F : DefAt K mg "executed" sExec ["program"] f fd) : ∀ d : Nat, FnOk P w K mg base CX0 d f fd ["program"] (spExec d)
  | 0 => by
    have no : ∀ vs H Q E, ¬ spExec 0 vs H Q E := fun vs H Q E h => by
      obtain ⟨a, p, n, l, _, h, _⟩ := h
      exact h
    exact ⟨fun vs H Q E h => absurd h (no vs H Q E), fun A outer s H args us vs Q E _ _ _ _ h => absurd h (no vs H Q E)⟩
  | d + 1 => ok_exec T F (exec_all T F d)
end
end K13
end
section
set_option maxRecDepth 100000
namespace K13
open PySem L2
/-! ## the mathematics: one step, one run, the combination -/
def stepL (p : Int) (i : Pl) (R : List Int) (v : Int) : List Int := match i with
  | .set x c => R.set x c
  | .copy x y => R.set x (R.getD y 0)
  | .add x y c => R.set x ((R.getD x 0 + c * R.getD y 0) % p)
  | .scale x c => R.set x (R.getD x 0 * c % p)
  | .swap x y => (R.set x (R.getD y 0)).set y (R.getD x 0)
  | .read x => R.set x v
  | .write _ => R
def outL (i : Pl) (R : List Int) : List Int := match i with
  | .write x => [R.getD x 0]
  | _ => []
def restL (i : Pl) (I : List Int) : List Int := match i with
  | .read _ => I.tail
  | _ => I
def readN (i : Pl) : Nat := match i with
  | .read _ => 1
  | _ => 0
def reads : List Pl → Nat
  | [] => 0
  | i :: l => readN i + reads l
def runL (p : Int) : List Pl → List Int → List Int → List Int × List Int
  | [], R, _ => (R, [])
  | i :: l, R, I => ((runL p l (stepL p i R (I.headD 0)) (restL i I)).1, outL i R ++ (runL p l (stepL p i R (I.headD 0)) (restL i I)).2)
def comb1 (p a x y z : Int) : Int := (x + a * (y - z)) % p
def comb (p a : Int) : List Int → List Int → List Int → List Int
  | x :: xs, y :: ys, z :: zs => comb1 p a x y z :: comb p a xs ys zs
  | _, _, _ => []
theorem comb_len (p a : Int) : ∀ {n : Nat} {xs ys zs : List Int}, xs.length = n → ys.length = n → zs.length = n → (comb p a xs ys zs).length = n
  | 0, [], [], [], _, _, _ => rfl
  | n + 1, x :: xs, y :: ys, z :: zs, h1, h2, h3 => by
    simp only [List.length_cons, Nat.add_right_cancel_iff] at h1 h2 h3
    simp only [comb, List.length_cons, comb_len p a h1 h2 h3]
theorem comb_get (p a : Int) : ∀ {n k : Nat} {xs ys zs : List Int}, xs.length = n → ys.length = n → zs.length = n → k < n → (comb p a xs ys zs).getD k 0 = comb1 p a (xs.getD k 0) (ys.getD k 0) (zs.getD k 0)
  | n + 1, 0, x :: xs, y :: ys, z :: zs, _, _, _, _ => by simp [comb]
  | n + 1, k + 1, x :: xs, y :: ys, z :: zs, h1, h2, h3, hk => by
    simp only [List.length_cons, Nat.add_right_cancel_iff] at h1 h2 h3
    have h := comb_get p a (k := k) h1 h2 h3 (by omega)
    simpa [comb] using h
theorem comb_set (p a u v w : Int) : ∀ {n k : Nat} {xs ys zs : List Int}, xs.length = n → ys.length = n → zs.length = n → comb p a (xs.set k u) (ys.set k v) (zs.set k w) = (comb p a xs ys zs).set k (comb1 p a u v w)
  | 0, k, [], [], [], _, _, _ => rfl
  | n + 1, 0, x :: xs, y :: ys, z :: zs, _, _, _ => rfl
  | n + 1, k + 1, x :: xs, y :: ys, z :: zs, h1, h2, h3 => by
    simp only [List.length_cons, Nat.add_right_cancel_iff] at h1 h2 h3
    have h := comb_set p a u v w (k := k) h1 h2 h3
    simp only [List.set_cons_succ, comb, h]
theorem comb_app (p a : Int) : ∀ {xs ys zs xs' ys' zs' : List Int}, xs.length = ys.length → xs.length = zs.length → comb p a (xs ++ xs') (ys ++ ys') (zs ++ zs') = comb p a xs ys zs ++ comb p a xs' ys' zs'
  | [], [], [], _, _, _, _, _ => rfl
  | x :: xs, y :: ys, z :: zs, xs', ys', zs', h1, h2 => by
    simp only [List.length_cons, Nat.add_right_cancel_iff] at h1 h2
    simp only [List.cons_append, comb, comb_app p a h1 h2]
def InP (p : Int) (R : List Int) : Prop := ∀ z ∈ R, 0 ≤ z ∧ z < p
theorem comb_in {p : Int} (a : Int) (hp : 0 < p) : ∀ (xs ys zs : List Int), InP p (comb p a xs ys zs)
  | x :: xs, y :: ys, z :: zs => fun t ht => by
    rcases List.mem_cons.mp ht with rfl | ht
    · exact ⟨Int.emod_nonneg _ (by omega), Int.emod_lt_of_pos _ hp⟩
    · exact comb_in a hp xs ys zs t ht
  | [], _, _ => fun t ht => by simp [comb] at ht
  | _ :: _, [], _ => fun t ht => by simp [comb] at ht
  | _ :: _, _ :: _, [] => fun t ht => by simp [comb] at ht
theorem step_len (p : Int) (i : Pl) (R : List Int) (v : Int) : (stepL p i R v).length = R.length := by
  cases i <;> simp [stepL]
theorem getD_in {p : Int} (hp : 0 < p) {R : List Int} (h : InP p R) (k : Nat) : 0 ≤ R.getD k 0 ∧ R.getD k 0 < p := by
  rw [List.getD_eq_getElem?_getD]
  cases e : R[k]? with
  | none => simpa using hp
  | some z => exact h z (List.mem_of_getElem? e)
theorem set_in {p : Int} {R : List Int} (h : InP p R) (k : Nat) {z : Int} (h0 : 0 ≤ z) (h1 : z < p) : InP p (R.set k z) := fun t ht => by
  rcases List.mem_or_eq_of_mem_set ht with ht | rfl
  · exact h t ht
  · exact ⟨h0, h1⟩
theorem step_in {p : Int} (hp : 0 < p) {n : Nat} {i : Pl} (hw : i.wf p n) {R : List Int} (h : InP p R) {v : Int} (hv0 : 0 ≤ v) (hv1 : v < p) : InP p (stepL p i R v) := by
  cases i with
  | set x c => exact set_in h x hw.2.1 hw.2.2
  | copy x y => exact set_in h x (getD_in hp h y).1 (getD_in hp h y).2
  | add x y c => exact set_in h x (Int.emod_nonneg _ (by omega)) (Int.emod_lt_of_pos _ hp)
  | scale x c => exact set_in h x (Int.emod_nonneg _ (by omega)) (Int.emod_lt_of_pos _ hp)
  | swap x y => exact set_in (set_in h x (getD_in hp h y).1 (getD_in hp h y).2) y (getD_in hp h x).1 (getD_in hp h x).2
  | read x => exact set_in h x hv0 hv1
  | write x => exact h
/-! ### congruences -/
theorem emod_of_sub {p x y k : Int} (h : x - y = p * k) : x % p = y % p := by
  have e : x = y + p * k := by omega
  rw [e, Int.add_mul_emod_self_left]
theorem cong_add (p a c x1 x2 x3 y1 y2 y3 : Int) : (comb1 p a x1 x2 x3 + c * comb1 p a y1 y2 y3) % p = comb1 p a ((x1 + c * y1) % p) ((x2 + c * y2) % p) ((x3 + c * y3) % p) := by
  unfold comb1
  refine emod_of_sub (k := -((x1 + a * (x2 - x3)) / p) - c * ((y1 + a * (y2 - y3)) / p) + (x1 + c * y1) / p + a * ((x2 + c * y2) / p) - a * ((x3 + c * y3) / p)) ?_
  rw [Int.emod_def, Int.emod_def, Int.emod_def, Int.emod_def, Int.emod_def]
  generalize (x1 + a * (x2 - x3)) / p = q1
  generalize (y1 + a * (y2 - y3)) / p = q2
  generalize (x1 + c * y1) / p = q3
  generalize (x2 + c * y2) / p = q4
  generalize (x3 + c * y3) / p = q5
  grind
theorem cong_scale (p a c x1 x2 x3 : Int) : comb1 p a x1 x2 x3 * c % p = comb1 p a (x1 * c % p) (x2 * c % p) (x3 * c % p) := by
  unfold comb1
  refine emod_of_sub (k := -(c * ((x1 + a * (x2 - x3)) / p)) + (x1 * c) / p + a * ((x2 * c) / p) - a * ((x3 * c) / p)) ?_
  rw [Int.emod_def, Int.emod_def, Int.emod_def, Int.emod_def]
  generalize (x1 + a * (x2 - x3)) / p = q1
  generalize (x1 * c) / p = q3
  generalize (x2 * c) / p = q4
  generalize (x3 * c) / p = q5
  grind
theorem comb1_same {p c : Int} (a : Int) (h0 : 0 ≤ c) (h1 : c < p) : comb1 p a c c c = c := by
  unfold comb1
  rw [Int.sub_self, Int.mul_zero, Int.add_zero]
  exact Int.emod_eq_of_lt h0 h1
theorem step_comb {p a : Int} {n : Nat} {i : Pl} (hw : i.wf p n) {R1 R2 R3 : List Int} (h1 : R1.length = n) (h2 : R2.length = n) (h3 : R3.length = n) (v1 v2 v3 : Int) :
    stepL p i (comb p a R1 R2 R3) (comb1 p a v1 v2 v3) = comb p a (stepL p i R1 v1) (stepL p i R2 v2) (stepL p i R3 v3) := by
  cases i with
  | set x c =>
    simp only [stepL]
    rw [comb_set p a c c c h1 h2 h3, comb1_same a hw.2.1 hw.2.2]
  | copy x y =>
    simp only [stepL]
    rw [comb_set p a _ _ _ h1 h2 h3, comb_get p a h1 h2 h3 hw.2]
  | add x y c =>
    simp only [stepL]
    rw [comb_set p a _ _ _ h1 h2 h3, comb_get p a h1 h2 h3 hw.1, comb_get p a h1 h2 h3 hw.2, cong_add]
  | scale x c =>
    simp only [stepL]
    rw [comb_set p a _ _ _ h1 h2 h3, comb_get p a h1 h2 h3 hw, cong_scale]
  | swap x y =>
    simp only [stepL]
    rw [comb_set p a _ _ _ (n := n) (by simpa using h1) (by simpa using h2) (by simpa using h3), comb_set p a _ _ _ h1 h2 h3, comb_get p a h1 h2 h3 hw.1, comb_get p a h1 h2 h3 hw.2]
  | read x =>
    simp only [stepL]
    rw [comb_set p a _ _ _ h1 h2 h3]
  | write x => rfl
theorem step_val {p : Int} {i : Pl} (h : readN i = 0) (R : List Int) (v v' : Int) : stepL p i R v = stepL p i R v' := by
  cases i <;> first | rfl | cases h
theorem out_comb {p a : Int} {n : Nat} {i : Pl} (hw : i.wf p n) {R1 R2 R3 : List Int} (h1 : R1.length = n) (h2 : R2.length = n) (h3 : R3.length = n) :
    outL i (comb p a R1 R2 R3) = comb p a (outL i R1) (outL i R2) (outL i R3) := by
  cases i with
  | write x =>
    simp only [outL, comb]
    rw [comb_get p a h1 h2 h3 hw]
  | _ => rfl
theorem out_len (i : Pl) (R R' : List Int) : (outL i R).length = (outL i R').length := by cases i <;> rfl
/-- the run of the combination is the combination of the runs -/
theorem run_comb {p a : Int} {n : Nat} : ∀ (l : List Pl), (∀ i ∈ l, i.wf p n) → ∀ (R1 R2 R3 I1 I2 I3 : List Int), R1.length = n → R2.length = n → R3.length = n → I1.length = reads l → I2.length = reads l → I3.length = reads l →
    runL p l (comb p a R1 R2 R3) (comb p a I1 I2 I3) = (comb p a (runL p l R1 I1).1 (runL p l R2 I2).1 (runL p l R3 I3).1, comb p a (runL p l R1 I1).2 (runL p l R2 I2).2 (runL p l R3 I3).2)
  | [], _, _, _, _, _, _, _, _, _, _, _, _, _ => rfl
  | i :: l, hw, R1, R2, R3, I1, I2, I3, h1, h2, h3, g1, g2, g3 => by
    have hwi := hw i (List.mem_cons_self ..)
    have ho := out_comb (a := a) hwi h1 h2 h3
    have key : stepL p i (comb p a R1 R2 R3) ((comb p a I1 I2 I3).headD 0) = comb p a (stepL p i R1 (I1.headD 0)) (stepL p i R2 (I2.headD 0)) (stepL p i R3 (I3.headD 0)) ∧ restL i (comb p a I1 I2 I3) = comb p a (restL i I1) (restL i I2) (restL i I3) ∧
        (restL i I1).length = reads l ∧ (restL i I2).length = reads l ∧ (restL i I3).length = reads l := by
      by_cases hr : readN i = 0
      · have e : ∀ I : List Int, restL i I = I := fun I => by cases i <;> first | rfl | cases hr
        simp only [reads, hr, Nat.zero_add] at g1 g2 g3
        refine ⟨?_, by rw [e, e, e, e], by rw [e]; exact g1, by rw [e]; exact g2, by rw [e]; exact g3⟩
        rw [step_val hr _ _ (comb1 p a (I1.headD 0) (I2.headD 0) (I3.headD 0))]
        exact step_comb hwi h1 h2 h3 _ _ _
      · obtain ⟨x, rfl⟩ : ∃ x, i = .read x := by
          cases i with
          | read x => exact ⟨x, rfl⟩
          | _ => exact absurd rfl hr
        simp only [reads, readN] at g1 g2 g3
        match I1, I2, I3, g1, g2, g3 with
        | v1 :: J1, v2 :: J2, v3 :: J3, g1, g2, g3 =>
          simp only [List.length_cons] at g1 g2 g3
          refine ⟨?_, rfl, ?_, ?_, ?_⟩
          · exact step_comb hwi h1 h2 h3 v1 v2 v3
          · show J1.length = _; omega
          · show J2.length = _; omega
          · show J3.length = _; omega
        | [], _, _, g1, _, _ => simp at g1; omega
        | _ :: _, [], _, _, g2, _ => simp at g2; omega
        | _ :: _, _ :: _, [], _, _, g3 => simp at g3; omega
    obtain ⟨k1, k2, k3, k4, k5⟩ := key
    have ih := run_comb (a := a) l (fun j hj => hw j (List.mem_cons_of_mem _ hj)) (stepL p i R1 (I1.headD 0)) (stepL p i R2 (I2.headD 0)) (stepL p i R3 (I3.headD 0)) (restL i I1) (restL i I2) (restL i I3) (by rw [step_len, h1]) (by rw [step_len, h2]) (by rw [step_len, h3]) k3 k4 k5
    simp only [runL]
    rw [k1, k2, ih, ho, comb_app p a (out_len i _ _) (out_len i _ _)]
theorem run_len {p : Int} : ∀ (l : List Pl) (R I : List Int), (runL p l R I).1.length = R.length
  | [], _, _ => rfl
  | i :: l, R, I => by
    simp only [runL]
    rw [run_len l, step_len]
theorem run_outs {p : Int} : ∀ (l : List Pl) (R I : List Int), (runL p l R I).2.length ≤ l.length
  | [], _, _ => Nat.le_refl _
  | i :: l, R, I => by
    simp only [runL, List.length_append, List.length_cons]
    have h := run_outs (p := p) l (stepL p i R (I.headD 0)) (restL i I)
    have h2 : (outL i R).length ≤ 1 := by cases i <;> simp [outL]
    omega
theorem run_outs_eq {p : Int} : ∀ (l : List Pl) (R I R' I' : List Int), (runL p l R I).2.length = (runL p l R' I').2.length
  | [], _, _, _, _ => rfl
  | i :: l, R, I, R', I' => by
    simp only [runL, List.length_append]
    rw [run_outs_eq l _ _ (stepL p i R' (I'.headD 0)) (restL i I'), out_len i R R']
end K13
end
section
set_option maxRecDepth 100000
namespace K13
open PySem L2
theorem ixN_at {n k : Nat} (h : k < n) : ixN n (k : Int) = some k := by
  unfold ixN
  rw [if_pos (by omega), if_pos (by omega), Int.toNat_natCast]
theorem ints_at {R : List Int} {k n : Nat} (h : R.length = n) (hk : k < n) : (R.map V.int)[k]? = some (.int (R.getD k 0)) := by
  rw [List.getElem?_map, List.getD_eq_getElem?_getD, List.getElem?_eq_getElem (by omega)]
  rfl
theorem ints_ix {R : List Int} {k n : Nat} (h : R.length = n) (hk : k < n) : atI (R.map V.int) (k : Int) = some (.int (R.getD k 0)) := atI_nat (ints_at h hk)
theorem map_set_int (R : List Int) (k : Nat) (z : Int) : (R.map V.int).set k (.int z) = (R.set k z).map V.int := by rw [List.map_set]
section
variable {P : Program} {w : World} {K : PySem.W.Frag} {mg : Str → Option Value} {base : Heap}
/-! ## after -/
abbrev sAfter : Stmt := topS 16
abbrev nAfter : List Str := ["p", "item", "registers", "value", "found", "x"]
abbrev pAfter : List Str := ["p", "item", "registers", "value"]
theorem scAfter : FnScope nAfter pAfter (defScope sAfter) := ⟨rfl, rfl, rfl, by decide +kernel, rfl, by decide +kernel, by decide +kernel⟩
def spAfter : Sp := fun vs H Q _ => ∃ (p v : Int) (t r : Addr) (i : Pl) (n : Nat) (R : List Int), vs = [.int p, .ref t, .ref r, .int v] ∧ 0 < p ∧ p ≤ 10007 ∧ H t = some (.tup i.vals) ∧ i.wf p n ∧ H r = some (.tup (R.map V.int)) ∧ R.length = n ∧ n ≤ 8 ∧ InP p R ∧
  ∀ (t' : Addr) (H' : Hp), Same H H' → H' t' = some (.tup ((stepL p i R v).map V.int)) → Q (.ref t') H'
theorem ok_after {f : Addr} {fd : FuncData} (T : Txt mg) (F : Fun K "after" "after" sAfter f fd) : FnOk P w K mg base CX0 1 f fd pAfter spAfter := by
  obtain ⟨t1, h1⟩ := T.sET
  obtain ⟨t2, h2⟩ := T.cOPY
  obtain ⟨t3, h3⟩ := T.aDD
  obtain ⟨t4, h4⟩ := T.sCALE
  obtain ⟨t5, h5⟩ := T.sWAP
  obtain ⟨t6, h6⟩ := T.rEAD
  refine F.ok scAfter (fun vs H Q E h => ?_) (fun cdv A outer s H vs Q E hr h => ?_)
  · obtain ⟨p, v, t, r, i, n, R, rfl, _⟩ := h
    rfl
  obtain ⟨p, v, t, r, i, n, R, rfl, hp0, hp1, ht, hwf, hR, hRn, hn8, hin, q⟩ := h
  refine ⟨_, pss_cons (ps_par (i := 4) (j := 5) rfl scAfter.nd rfl rfl (by decide) rfl rfl (pa_cons (pe_callTy call_list_of (by rfl) T.list (by decide +kernel) (pa_cons (pv 2) pa_nil)) (pa_cons (pe_ix ix_tup (pv 1) pe_int (fun _ _ => rfl)) pa_nil)) (by rfl))
    (pss_cons (ps_if (pt_cmpR op_eq (pe_ix ix_tup (pv 1) pe_int (fun _ _ => rfl)) (pe_txt rfl h1) (nomark _)) (pss_one (ps_asg (pe_ix ix_tup (pv 1) pe_int (fun _ _ => rfl)) (pg_sub (pv 4) (pv 5) set_list)))
      (pss_one (ps_if (pt_cmpR op_eq (pe_ix ix_tup (pv 1) pe_int (fun _ _ => rfl)) (pe_txt rfl h2) (nomark _)) (pss_one (ps_asg (pe_ix ix_tup (pv 2) (pe_ix ix_tup (pv 1) pe_int (fun _ _ => rfl)) (fun _ _ => rfl)) (pg_sub (pv 4) (pv 5) set_list)))
      (pss_one (ps_if (pt_cmpR op_eq (pe_ix ix_tup (pv 1) pe_int (fun _ _ => rfl)) (pe_txt rfl h3) (nomark _)) (pss_one (ps_asg (pe_op op_mod (pe_op op_add (pe_ix ix_tup (pv 2) (pv 5) (fun _ _ => rfl))
          (pe_op op_mul (pe_ix ix_tup (pv 1) pe_int (fun _ _ => rfl)) (pe_ix ix_tup (pv 2) (pe_ix ix_tup (pv 1) pe_int (fun _ _ => rfl)) (fun _ _ => rfl)))) (pv 0)) (pg_sub (pv 4) (pv 5) set_list)))
      (pss_one (ps_if (pt_cmpR op_eq (pe_ix ix_tup (pv 1) pe_int (fun _ _ => rfl)) (pe_txt rfl h4) (nomark _)) (pss_one (ps_asg (pe_op op_mod (pe_op op_mul (pe_ix ix_tup (pv 2) (pv 5) (fun _ _ => rfl)) (pe_ix ix_tup (pv 1) pe_int (fun _ _ => rfl))) (pv 0)) (pg_sub (pv 4) (pv 5) set_list)))
      (pss_one (ps_if (pt_cmpR op_eq (pe_ix ix_tup (pv 1) pe_int (fun _ _ => rfl)) (pe_txt rfl h5) (nomark _)) (pss_one (ps_asg (pe_tup (pa_cons (pe_ix ix_tup (pv 2) (pe_ix ix_tup (pv 1) pe_int (fun _ _ => rfl)) (fun _ _ => rfl)) (pa_cons (pe_ix ix_tup (pv 2) (pv 5) (fun _ _ => rfl)) pa_nil)))
          (pg_tup rfl (pgs_cons (pg_sub (pv 4) (pv 5) set_list) (pgs_cons (pg_sub (pv 4) (pe_ix ix_tup (pv 1) pe_int (fun _ _ => rfl)) set_list) pgs_nil)))))
      (pss_one (ps_if (pt_cmpR op_eq (pe_ix ix_tup (pv 1) pe_int (fun _ _ => rfl)) (pe_txt rfl h6) (nomark _)) (pss_one (ps_asg (pv 3) (pg_sub (pv 4) (pv 5) set_list))) pss_nil)))))))))))
    (pss_one (ps_ret (pe_callTy call_tuple_of (by rfl) T.tuple (by decide +kernel) (pa_cons (pv 4) pa_nil))))), ?_⟩
  refine ⟨.ref r, rfl, r, _, rfl, .inr (.of hR), fun fo hfo => ?_⟩
  have s1 : Same H (upd H fo (.lst (R.map V.int))) := new_same hfo
  have hf : (upd H fo (.lst (R.map V.int))) fo = some (.lst (R.map V.int)) := upd_same
  have ht1 := s1 _ _ ht
  have hR1 := s1 _ _ hR
  -- the end
  have fin : ∀ (H2 : Hp) (S : List Int), Same H H2 → H2 fo = some (.lst (S.map V.int)) → S = stepL p i R v → ∃ p_1 ys, [V.ref fo] = [V.ref p_1] ∧ ((SqL K H2 p_1 ys ∧ ∀ l, H2 l = none → Q (.ref l) (upd H2 l (.tup ys))) ∨ (SqT K H2 p_1 ys ∧ Q (.ref p_1) H2)) := by
    intro H2 S s2 h2 e
    refine ⟨fo, _, rfl, .inl ⟨.of h2, fun l hl => q l _ (s2.trans (new_same hl)) ?_⟩⟩
    rw [upd_same, e]
  have put : ∀ (S : List Int) (H2 : Hp), Same H H2 → Same H (upd H2 fo (.lst (S.map V.int))) := fun S H2 s2 => same_put s2 hfo
  cases i with
  | set x c =>
    refine ⟨.ref t, rfl, t, _, 1, .int x, rfl, rfl, .of ht1, atI_nat (j := 1) rfl, _, _, rfl, ?_⟩
    refine ⟨.ref t, rfl, t, _, 0, _, rfl, rfl, .of ht1, atI_nat (j := 0) rfl, rfl, _, rfl, iteB true (by decide +kernel) (iteT ?_)⟩
    refine ⟨.ref t, rfl, t, _, 2, .int c, rfl, rfl, .of ht1, atI_nat (j := 2) rfl, .ref fo, rfl, .int x, rfl, fo, _, x, x, rfl, rfl, hf, ixN_at (by rw [List.length_map, hRn]; exact hwf.1), ?_⟩
    rw [map_set_int]
    exact ⟨.ref fo, rfl, fin _ _ (put _ _ s1) upd_same rfl⟩
  | copy x y =>
    refine ⟨.ref t, rfl, t, _, 1, .int x, rfl, rfl, .of ht1, atI_nat (j := 1) rfl, _, _, rfl, ?_⟩
    refine ⟨.ref t, rfl, t, _, 0, _, rfl, rfl, .of ht1, atI_nat (j := 0) rfl, rfl, _, rfl, iteB false (by decide +kernel) (iteF ?_)⟩
    refine ⟨.ref t, rfl, t, _, 0, _, rfl, rfl, .of ht1, atI_nat (j := 0) rfl, rfl, _, rfl, iteB true (by decide +kernel) (iteT ?_)⟩
    refine ⟨.ref r, rfl, .ref t, rfl, t, _, 2, .int y, rfl, rfl, .of ht1, atI_nat (j := 2) rfl, r, _, y, _, rfl, rfl, .of hR1, ints_ix hRn hwf.2, .ref fo, rfl, .int x, rfl, fo, _, x, x, rfl, rfl, hf, ixN_at (by rw [List.length_map, hRn]; exact hwf.1), ?_⟩
    rw [map_set_int]
    exact ⟨.ref fo, rfl, fin _ _ (put _ _ s1) upd_same rfl⟩
  | add x y c =>
    refine ⟨.ref t, rfl, t, _, 1, .int x, rfl, rfl, .of ht1, atI_nat (j := 1) rfl, _, _, rfl, ?_⟩
    refine ⟨.ref t, rfl, t, _, 0, _, rfl, rfl, .of ht1, atI_nat (j := 0) rfl, rfl, _, rfl, iteB false (by decide +kernel) (iteF ?_)⟩
    refine ⟨.ref t, rfl, t, _, 0, _, rfl, rfl, .of ht1, atI_nat (j := 0) rfl, rfl, _, rfl, iteB false (by decide +kernel) (iteF ?_)⟩
    refine ⟨.ref t, rfl, t, _, 0, _, rfl, rfl, .of ht1, atI_nat (j := 0) rfl, rfl, _, rfl, iteB true (by decide +kernel) (iteT ?_)⟩
    have gy := getD_in hp0 hin y
    refine ⟨.ref r, rfl, .int x, rfl, r, _, x, _, rfl, rfl, .of hR1, ints_ix hRn hwf.1, .ref t, rfl, t, _, 3, .int c, rfl, rfl, .of ht1, atI_nat (j := 3) rfl, .ref r, rfl, .ref t, rfl, t, _, 2, .int y, rfl, rfl, .of ht1, atI_nat (j := 2) rfl, r, _, y, _, rfl, rfl, .of hR1, ints_ix hRn hwf.2,
      c, _, rfl, rfl, .inr ⟨by omega, by omega⟩, _, _, rfl, rfl, .int p, rfl, R.getD x 0 + c * R.getD y 0, p, rfl, rfl, hp0, .ref fo, rfl, .int x, rfl, fo, _, x, x, rfl, rfl, hf, ixN_at (by rw [List.length_map, hRn]; exact hwf.1), ?_⟩
    rw [map_set_int]
    exact ⟨.ref fo, rfl, fin _ _ (put _ _ s1) upd_same rfl⟩
  | scale x c =>
    refine ⟨.ref t, rfl, t, _, 1, .int x, rfl, rfl, .of ht1, atI_nat (j := 1) rfl, _, _, rfl, ?_⟩
    refine ⟨.ref t, rfl, t, _, 0, _, rfl, rfl, .of ht1, atI_nat (j := 0) rfl, rfl, _, rfl, iteB false (by decide +kernel) (iteF ?_)⟩
    refine ⟨.ref t, rfl, t, _, 0, _, rfl, rfl, .of ht1, atI_nat (j := 0) rfl, rfl, _, rfl, iteB false (by decide +kernel) (iteF ?_)⟩
    refine ⟨.ref t, rfl, t, _, 0, _, rfl, rfl, .of ht1, atI_nat (j := 0) rfl, rfl, _, rfl, iteB false (by decide +kernel) (iteF ?_)⟩
    refine ⟨.ref t, rfl, t, _, 0, _, rfl, rfl, .of ht1, atI_nat (j := 0) rfl, rfl, _, rfl, iteB true (by decide +kernel) (iteT ?_)⟩
    have gx := getD_in hp0 hin x
    refine ⟨.ref r, rfl, .int x, rfl, r, _, x, _, rfl, rfl, .of hR1, ints_ix hRn hwf, .ref t, rfl, t, _, 2, .int c, rfl, rfl, .of ht1, atI_nat (j := 2) rfl,
      _, c, rfl, rfl, .inl ⟨by omega, by omega⟩, .int p, rfl, R.getD x 0 * c, p, rfl, rfl, hp0, .ref fo, rfl, .int x, rfl, fo, _, x, x, rfl, rfl, hf, ixN_at (by rw [List.length_map, hRn]; exact hwf), ?_⟩
    rw [map_set_int]
    exact ⟨.ref fo, rfl, fin _ _ (put _ _ s1) upd_same rfl⟩
  | swap x y =>
    refine ⟨.ref t, rfl, t, _, 1, .int x, rfl, rfl, .of ht1, atI_nat (j := 1) rfl, _, _, rfl, ?_⟩
    refine ⟨.ref t, rfl, t, _, 0, _, rfl, rfl, .of ht1, atI_nat (j := 0) rfl, rfl, _, rfl, iteB false (by decide +kernel) (iteF ?_)⟩
    refine ⟨.ref t, rfl, t, _, 0, _, rfl, rfl, .of ht1, atI_nat (j := 0) rfl, rfl, _, rfl, iteB false (by decide +kernel) (iteF ?_)⟩
    refine ⟨.ref t, rfl, t, _, 0, _, rfl, rfl, .of ht1, atI_nat (j := 0) rfl, rfl, _, rfl, iteB false (by decide +kernel) (iteF ?_)⟩
    refine ⟨.ref t, rfl, t, _, 0, _, rfl, rfl, .of ht1, atI_nat (j := 0) rfl, rfl, _, rfl, iteB false (by decide +kernel) (iteF ?_)⟩
    refine ⟨.ref t, rfl, t, _, 0, _, rfl, rfl, .of ht1, atI_nat (j := 0) rfl, rfl, _, rfl, iteB true (by decide +kernel) (iteT ?_)⟩
    refine ⟨.ref r, rfl, .ref t, rfl, t, _, 2, .int y, rfl, rfl, .of ht1, atI_nat (j := 2) rfl, r, _, y, _, rfl, rfl, .of hR1, ints_ix hRn hwf.2, .ref r, rfl, .int x, rfl, r, _, x, _, rfl, rfl, .of hR1, ints_ix hRn hwf.1, (by show 2 ≤ sizeLine; decide), fun e he => ?_⟩
    have s2 := new_same he (o := .tup [V.int (R.getD y 0), V.int (R.getD x 0)])
    have hf2 := s2 _ _ hf
    refine ⟨e, _, rfl, .of upd_same, rfl, _, _, rfl, .ref fo, rfl, .int x, rfl, fo, _, x, x, rfl, rfl, hf2, ixN_at (by rw [List.length_map, hRn]; exact hwf.1), ?_⟩
    rw [map_set_int]
    have hne : t ≠ fo := ne_of_none ht hfo
    refine ⟨_, _, rfl, .ref fo, rfl, .ref t, rfl, t, _, 2, .int y, rfl, rfl, .of ((upd_ne hne).trans (s2 _ _ ht1)), atI_nat (j := 2) rfl, fo, _, y, y, rfl, rfl, upd_same, ixN_at (by rw [List.length_map, List.length_set, hRn]; exact hwf.2), rfl, ?_⟩
    rw [map_set_int]
    exact ⟨.ref fo, rfl, fin _ _ (put _ _ (put _ _ (s1.trans s2))) upd_same rfl⟩
  | read x =>
    refine ⟨.ref t, rfl, t, _, 1, .int x, rfl, rfl, .of ht1, atI_nat (j := 1) rfl, _, _, rfl, ?_⟩
    refine ⟨.ref t, rfl, t, _, 0, _, rfl, rfl, .of ht1, atI_nat (j := 0) rfl, rfl, _, rfl, iteB false (by decide +kernel) (iteF ?_)⟩
    refine ⟨.ref t, rfl, t, _, 0, _, rfl, rfl, .of ht1, atI_nat (j := 0) rfl, rfl, _, rfl, iteB false (by decide +kernel) (iteF ?_)⟩
    refine ⟨.ref t, rfl, t, _, 0, _, rfl, rfl, .of ht1, atI_nat (j := 0) rfl, rfl, _, rfl, iteB false (by decide +kernel) (iteF ?_)⟩
    refine ⟨.ref t, rfl, t, _, 0, _, rfl, rfl, .of ht1, atI_nat (j := 0) rfl, rfl, _, rfl, iteB false (by decide +kernel) (iteF ?_)⟩
    refine ⟨.ref t, rfl, t, _, 0, _, rfl, rfl, .of ht1, atI_nat (j := 0) rfl, rfl, _, rfl, iteB false (by decide +kernel) (iteF ?_)⟩
    refine ⟨.ref t, rfl, t, _, 0, _, rfl, rfl, .of ht1, atI_nat (j := 0) rfl, rfl, _, rfl, iteB true (by decide +kernel) (iteT ?_)⟩
    refine ⟨.int v, rfl, .ref fo, rfl, .int x, rfl, fo, _, x, x, rfl, rfl, hf, ixN_at (by rw [List.length_map, hRn]; exact hwf), ?_⟩
    rw [map_set_int]
    exact ⟨.ref fo, rfl, fin _ _ (put _ _ s1) upd_same rfl⟩
  | write x =>
    refine ⟨.ref t, rfl, t, _, 1, .int x, rfl, rfl, .of ht1, atI_nat (j := 1) rfl, _, _, rfl, ?_⟩
    refine ⟨.ref t, rfl, t, _, 0, _, rfl, rfl, .of ht1, atI_nat (j := 0) rfl, rfl, _, rfl, iteB false (by decide +kernel) (iteF ?_)⟩
    refine ⟨.ref t, rfl, t, _, 0, _, rfl, rfl, .of ht1, atI_nat (j := 0) rfl, rfl, _, rfl, iteB false (by decide +kernel) (iteF ?_)⟩
    refine ⟨.ref t, rfl, t, _, 0, _, rfl, rfl, .of ht1, atI_nat (j := 0) rfl, rfl, _, rfl, iteB false (by decide +kernel) (iteF ?_)⟩
    refine ⟨.ref t, rfl, t, _, 0, _, rfl, rfl, .of ht1, atI_nat (j := 0) rfl, rfl, _, rfl, iteB false (by decide +kernel) (iteF ?_)⟩
    refine ⟨.ref t, rfl, t, _, 0, _, rfl, rfl, .of ht1, atI_nat (j := 0) rfl, rfl, _, rfl, iteB false (by decide +kernel) (iteF ?_)⟩
    refine ⟨.ref t, rfl, t, _, 0, _, rfl, rfl, .of ht1, atI_nat (j := 0) rfl, rfl, _, rfl, iteB false (by decide +kernel) (iteF ?_)⟩
    exact ⟨.ref fo, rfl, fin _ _ s1 hf rfl⟩
end
end K13
end
section
set_option maxRecDepth 100000
namespace K13
open PySem L2
theorem drop_at {α : Type} {l : List α} {j : Nat} {x : α} (h : l[j]? = some x) : l.drop j = x :: l.drop (j + 1) := by
  obtain ⟨hj, e⟩ := List.getElem?_eq_some_iff.mp h
  rw [← e]
  exact List.drop_eq_getElem_cons hj
theorem rev_pop (v : Int) (I : List Int) : (((v :: I).reverse).map V.int)[(((v :: I).reverse).map V.int).length - 1]? = some (.int v) ∧ (((v :: I).reverse).map V.int).dropLast = (I.reverse).map V.int := by
  rw [List.reverse_cons, List.map_append]
  constructor
  · simp
  · simp
theorem wf_all {p : Int} {n : Nat} {H : Hp} : ∀ {vs : List V} {l : List Pl}, Paired (PlI p n H) vs l → ∀ i ∈ l, i.wf p n
  | _, _, .nil => fun i h => absurd h List.not_mem_nil
  | _, _, .cons r t => fun i h => by
    rcases List.mem_cons.mp h with rfl | h
    · obtain ⟨_, _, _, q⟩ := r
      exact q
    · exact wf_all t i h
section
variable {P : Program} {w : World} {K : PySem.W.Frag} {mg : Str → Option Value} {base : Heap}
/-! ## run -/
abbrev sRun : Stmt := topS 18
abbrev nRun : List Str := ["p", "program", "registers", "inputs", "here", "outputs", "waiting", "item"]
abbrev pRun : List Str := ["p", "program", "registers", "inputs"]
theorem scRun : FnScope nRun pRun (defScope sRun) := ⟨rfl, rfl, rfl, by decide +kernel, rfl, by decide +kernel, by decide +kernel⟩
def spRun (d : Nat) : Sp := fun vs H Q _ => ∃ (p : Int) (a r s : Addr) (n : Nat) (l : List Pl) (R I : List Int), vs = [.int p, .ref a, .ref r, .ref s] ∧ 0 < p ∧ p ≤ 10007 ∧ n ≤ 8 ∧ Rep p n H d a l ∧ l.length ≤ 1000 ∧
  H r = some (.tup (R.map V.int)) ∧ H s = some (.tup (I.map V.int)) ∧ R.length = n ∧ I.length = reads l ∧ InP p R ∧ InP p I ∧
  ∀ (t t1 t2 : Addr) (H' : Hp), Same H H' → H' t = some (.tup [.ref t1, .ref t2]) → H' t1 = some (.tup ((runL p l R I).1.map V.int)) → H' t2 = some (.tup ((runL p l R I).2.map V.int)) → Q (.ref t) H'
theorem ok_run {d : Nat} {f fS fE fA : Addr} {fd fdS fdE fdA : FuncData} (T : Txt mg) (F : Fun K "run" "run" sRun f fd) (DS : DefAt K mg "step_count" sSteps ["program"] fS fdS) (GS : FnOk P w K mg base CX0 (d + 2) fS fdS ["program"] (spSteps (d + 1)))
    (DE : DefAt K mg "executed" sExec ["program"] fE fdE) (GE : FnOk P w K mg base CX0 (d + 1) fE fdE ["program"] (spExec (d + 1))) (DA : DefAt K mg "after" sAfter pAfter fA fdA) (GA : FnOk P w K mg base CX0 1 fA fdA pAfter spAfter) :
    FnOk P w K mg base CX0 (d + 3) f fd pRun (spRun (d + 1)) := by
  obtain ⟨tM, hM⟩ := T.most
  obtain ⟨tW, hW⟩ := T.wRITE
  obtain ⟨tR, hRd⟩ := T.rEAD
  refine F.ok scRun (fun vs H Q E h => ?_) (fun cdv A outer s H vs Q E hr h => ?_)
  · obtain ⟨p, a, r, s, n, l, R, I, rfl, _⟩ := h
    rfl
  obtain ⟨p, a, r, si, n, l, R, I, rfl, hp0, hp1, hn8, hrep, hlen, hR, hI, hRn, hIl, hinR, hinI, q⟩ := h
  have hr1 : Room 1 _ := hr.mono (by omega)
  have hrE : Room (d + 1) _ := hr.mono (by omega)
  refine ⟨_, pss_cons (ps_if (pt_cmpR op_gt (pe_call GS hr rfl DS.m DS.fn.kp DS.b .nil pass0 (pa_cons (pv 1) pa_nil)) (pe_num rfl hM) (nomark _)) pss_never pss_nil)
    (pss_cons (ps_par3 (i := 4) (j := 5) (l := 6) rfl scRun.nd rfl rfl rfl (by decide) (by decide) (by decide) rfl rfl rfl (pa_cons (pv 2) (pa_cons (pe_lst pa_nil) (pa_cons (pe_callTy call_list_of (by rfl) T.list (by decide +kernel) (pa_cons (pv 3) pa_nil)) pa_nil))) (by rfl))
    (pss_cons (ps_expr (pe_bm0 PySem.F.plainAttrs_list PySem.F.slot_list_reverse PySem.F.type_list_reverse mt_reverse (pv 6)))
    (pss_cons (ps_for PassesOwn.never rfl (pi_list (pe_call GE hrE rfl DE.m DE.fn.kp DE.b .nil pass0 (pa_cons (pv 1) pa_nil))) (pg_name (i := 7) scRun.nd rfl (.inl rfl))
      (pss_cons (ps_if (pt_cmpR op_eq (pe_ix ix_tup (pv 7) pe_int (fun _ _ => rfl)) (pe_txt rfl hW) (nomark _))
          (pss_one (ps_expr (pe_bm PySem.F.plainAttrs_list PySem.F.slot_list_append PySem.F.type_list_append mt_append (pv 5) (pa_cons (pe_ix ix_tup (pv 4) (pe_ix ix_tup (pv 7) pe_int (fun _ _ => rfl)) (fun _ _ => rfl)) pa_nil)))) pss_nil)
        (pss_one (ps_set (i := 4) scRun.nd rfl (.inl rfl) (pe_call GA hr1 rfl DA.m DA.fn.kp DA.b .nil pass0 (pa_cons (pv 0) (pa_cons (pv 7) (pa_cons (pv 4)
          (pa_cons (pe_ifExp (pt_cmpR op_eq (pe_ix ix_tup (pv 7) pe_int (fun _ _ => rfl)) (pe_txt rfl hRd) (nomark _)) (pe_bm0 PySem.F.plainAttrs_list PySem.F.slot_list_pop PySem.F.type_list_pop mt_pop (pv 6)) pe_int) pa_nil)))))))))
    (pss_one (ps_ret (pe_tup (pa_cons (pv 4) (pa_cons (pe_callTy call_tuple_of (by rfl) T.tuple (by decide +kernel) (pa_cons (pv 5) pa_nil)) pa_nil)))))))), ?_⟩
  -- step_count(program) > MOST_STEPS
  refine ⟨.ref a, rfl, a, p, n, l, rfl, hrep, hlen, fun H1 s1 => ?_⟩
  refine ⟨_, _, rfl, rfl, _, rfl, iteB false (decide_eq_false (by omega)) (iteF ?_)⟩
  -- here, outputs, waiting
  refine ⟨.ref r, rfl, Nat.zero_le _, fun o ho => ?_⟩
  have s2 : Same H (upd H1 o (.lst [])) := s1.trans (new_same ho)
  refine ⟨.ref si, rfl, si, _, rfl, .inr (.of (s2 _ _ hI)), fun wt hwt => ?_⟩
  have ho0 : H o = none := s1.free ho
  have hw0 : H wt = none := s2.free hwt
  have how : o ≠ wt := ne_of_none upd_same hwt
  refine ⟨_, _, _, rfl, ?_⟩
  -- waiting.reverse()
  refine ⟨.ref wt, rfl, .inl ⟨rfl, _, .of upd_same⟩, wt, _, rfl, rfl, upd_same, ?_⟩
  rw [upd_upd, ← List.map_reverse]
  have s3 : Same H (upd (upd H1 o (.lst [])) wt (.lst ((I.reverse).map V.int))) := same_put s2 hw0
  have ho3 : (upd (upd H1 o (.lst [])) wt (.lst ((I.reverse).map V.int))) o = some (.lst []) := by rw [upd_ne how, upd_same]
  -- executed(program)
  refine ⟨.ref a, rfl, a, p, n, l, rfl, Rep.keep (Tups.of_same s3) (d + 1) a l hrep, hlen, fun e vs H4 s4 he0 he pv1 => ?_⟩
  have heo : e ≠ o := (ne_of_none ho3 he0).symm
  have hew : e ≠ wt := (ne_of_none (upd_same (H := upd H1 o (.lst []))) he0).symm
  have hvl := paired_len pv1
  refine ⟨e, rfl, ⟨_, .of he⟩, ?_⟩
  refine for_list (K := K) (a := e) (xs := vs) (fun j σ H' => ∃ (hd : Addr) (S J O : List Int) (v7 : Option V), σ = [some (.int p), some (.ref a), some (.ref r), some (.ref si), some (.ref hd), some (.ref o), some (.ref wt), v7] ∧
    Same H H' ∧ Tups H4 H' ∧ H' e = some (.lst vs) ∧ H' hd = some (.tup (S.map V.int)) ∧ H' o = some (.lst (O.map V.int)) ∧ H' wt = some (.lst ((J.reverse).map V.int)) ∧ S.length = n ∧ InP p S ∧ InP p J ∧ J.length = reads (l.drop j) ∧ O.length ≤ j ∧
    (runL p l R I).1 = (runL p (l.drop j) S J).1 ∧ (runL p l R I).2 = O ++ (runL p (l.drop j) S J).2)
    ⟨r, R, I, [], none, rfl, s3.trans s4, fun _ _ h => h, he, s4 _ _ (s3 _ _ hR), s4 _ _ ho3, s4 _ _ upd_same, hRn, hinR, hinI, hIl, Nat.zero_le _, rfl, rfl⟩ (fun j σ H' _ h => ?_) ?_ ?_
  · obtain ⟨_, _, _, _, _, _, _, _, he', _⟩ := h
    exact .of he'
  · rintro j x σ H5 hx ⟨hd, S, J, O, v7, rfl, s5, k5, he5, hh5, ho5, hw5, hSn, hinS, hinJ, hJ, hO, q1, q2⟩
    obtain ⟨i, hi, t, rfl, ht, hwf⟩ := paired_get pv1 hx
    have hjl : j < vs.length := (List.getElem?_eq_some_iff.mp hx).1
    have hdrop := drop_at hi
    rw [hdrop] at q1 q2 hJ
    have ht5 := k5 _ _ ht
    simp only [runL] at q1 q2
    have hO1000 : O.length < sizeLine := small1000 (by omega)
    -- here = after(..), from any heap behind the write
    have go : ∀ (H6 : Hp) (O' : List Int), Same H H6 → Tups H5 H6 → H6 e = some (.lst vs) → H6 o = some (.lst (O'.map V.int)) → H6 wt = some (.lst ((J.reverse).map V.int)) → O' = O ++ outL i S →
        (tAsg (tCall spAfter [] E0 (tCons (tVar 0) (tCons (tVar 7) (tCons (tVar 4) (tCons (tIf (tTest (tOp rEq (tOp (rIxT K) (tVar 7) (tC (.int 0))) (tC (.str "read")))) (tBM0 K "list" rPop (tVar 6)) (tC (.int 0))) tNil))))) (gName 4))
          { nx := fun σ H' => ∃ (hd : Addr) (S J O : List Int) (v7 : Option V), σ = [some (.int p), some (.ref a), some (.ref r), some (.ref si), some (.ref hd), some (.ref o), some (.ref wt), v7] ∧
            Same H H' ∧ Tups H4 H' ∧ H' e = some (.lst vs) ∧ H' hd = some (.tup (S.map V.int)) ∧ H' o = some (.lst (O.map V.int)) ∧ H' wt = some (.lst ((J.reverse).map V.int)) ∧ S.length = n ∧ InP p S ∧ InP p J ∧ J.length = reads (l.drop (j + 1)) ∧ O.length ≤ j + 1 ∧
            (runL p l R I).1 = (runL p (l.drop (j + 1)) S J).1 ∧ (runL p l R I).2 = O ++ (runL p (l.drop (j + 1)) S J).2, rt := fun _ _ => False }
          [some (.int p), some (.ref a), some (.ref r), some (.ref si), some (.ref hd), some (.ref o), some (.ref wt), some (.ref t)] H6 := by
      intro H6 O' s6 k6 he6 ho6 hw6 hO'
      have ht6 := k6 _ _ ht5
      have hh6 := k6 _ _ hh5
      have hout : (outL i S).length ≤ 1 := by cases i <;> simp [outL]
      have hO'l : O'.length ≤ j + 1 := by rw [hO', List.length_append]; omega
      -- behind after
      have fin : ∀ (v : Int) (J' : List Int) (H7 : Hp), Same H H7 → Tups H6 H7 → H7 e = some (.lst vs) → H7 o = some (.lst (O'.map V.int)) → H7 wt = some (.lst ((J'.reverse).map V.int)) → J' = restL i J → stepL p i S v = stepL p i S (J.headD 0) → 0 ≤ v → v < p →
          spAfter [.int p, .ref t, .ref hd, .int v] H7 (fun x H' => ∃ (hd : Addr) (S J O : List Int) (v7 : Option V), ([some (.int p), some (.ref a), some (.ref r), some (.ref si), some (.ref hd), some (.ref o), some (.ref wt), some (.ref t)] : St).set 4 (some x) = [some (.int p), some (.ref a), some (.ref r), some (.ref si), some (.ref hd), some (.ref o), some (.ref wt), v7] ∧
            Same H H' ∧ Tups H4 H' ∧ H' e = some (.lst vs) ∧ H' hd = some (.tup (S.map V.int)) ∧ H' o = some (.lst (O.map V.int)) ∧ H' wt = some (.lst ((J.reverse).map V.int)) ∧ S.length = n ∧ InP p S ∧ InP p J ∧ J.length = reads (l.drop (j + 1)) ∧ O.length ≤ j + 1 ∧
            (runL p l R I).1 = (runL p (l.drop (j + 1)) S J).1 ∧ (runL p l R I).2 = O ++ (runL p (l.drop (j + 1)) S J).2) E0 := by
        intro v J' H7 s7 k7 he7 ho7 hw7 hJ' hst hv0 hvp
        refine ⟨p, v, t, hd, i, n, S, rfl, hp0, hp1, k7 _ _ ht6, hwf, k7 _ _ hh6, hSn, hn8, hinS, fun t' H8 s8 ht' => ?_⟩
        refine ⟨t', stepL p i S v, J', O', _, rfl, s7.trans s8, (k5.trans k6).trans (k7.trans (Tups.of_same s8)), s8 _ _ he7, ht', s8 _ _ ho7, s8 _ _ hw7, by rw [step_len, hSn], step_in hp0 hwf hinS hv0 hvp, ?_, ?_, hO'l, ?_, ?_⟩
        · rw [hJ']
          intro z hz
          refine hinJ z ?_
          cases i <;> first | exact hz | exact List.mem_of_mem_tail hz
        · rw [hJ']
          simp only [reads] at hJ
          cases i <;> simp only [readN, restL, List.length_tail] at hJ ⊢ <;> omega
        · rw [q1, hst, hJ']
        · rw [q2, hst, hJ', hO', List.append_assoc]
      refine ⟨.int p, rfl, .ref t, rfl, .ref hd, rfl, .ref t, rfl, t, _, 0, _, rfl, rfl, .of ht6, atI_nat (j := 0) i.at0, rfl, _, rfl, ?_⟩
      by_cases hrd : readN i = 0
      · have hne : decide (V.str i.word = V.str "read") = false := by
          cases i with
          | set x c => show decide (V.str "set" = V.str "read") = false; decide +kernel
          | copy x c => show decide (V.str "copy" = V.str "read") = false; decide +kernel
          | add x y c => show decide (V.str "add" = V.str "read") = false; decide +kernel
          | scale x c => show decide (V.str "scale" = V.str "read") = false; decide +kernel
          | swap x c => show decide (V.str "swap" = V.str "read") = false; decide +kernel
          | write x => show decide (V.str "write" = V.str "read") = false; decide +kernel
          | read x => exact absurd hrd (by show ¬ (1 = 0); decide)
        refine iteB false hne (iteF ?_)
        refine fin 0 J H6 s6 (fun _ _ h => h) he6 ho6 hw6 ?_ (step_val hrd _ _ _) (by omega) hp0
        cases i <;> first | rfl | exact absurd hrd (by show ¬ (1 = 0); decide)
      · obtain ⟨x, rfl⟩ : ∃ x, i = .read x := by
          cases i with
          | read x => exact ⟨x, rfl⟩
          | _ => exact absurd rfl hrd
        refine iteB true (by show decide (V.str "read" = V.str "read") = true; decide +kernel) (iteT ?_)
        simp only [reads, readN] at hJ
        cases J with
        | nil => simp at hJ; omega
        | cons v J' =>
          obtain ⟨p1, p2⟩ := rev_pop v J'
          have hv := hinJ v (List.mem_cons_self ..)
          refine ⟨.ref wt, rfl, .inl ⟨rfl, _, .of hw6⟩, wt, _, _, rfl, rfl, hw6, p1, ?_⟩
          rw [p2]
          refine fin v J' _ (same_put s6 hw0) (tups_put hw6) ?_ ?_ upd_same rfl rfl hv.1 hv.2
          · rw [upd_ne hew]; exact he6
          · rw [upd_ne how]; exact ho6
    refine ⟨.ref t, rfl, t, _, 0, _, rfl, rfl, .of ht5, atI_nat (j := 0) i.at0, rfl, _, rfl, ?_⟩
    by_cases hwr : ∃ x, i = .write x
    · obtain ⟨x, rfl⟩ := hwr
      refine iteB true (by show decide (V.str "write" = V.str "write") = true; decide +kernel) (iteT ?_)
      refine ⟨.ref o, rfl, .inl ⟨rfl, _, .of ho5⟩, .ref hd, rfl, .ref t, rfl, t, _, 1, .int x, rfl, rfl, .of ht5, atI_nat (j := 1) rfl, hd, _, x, _, rfl, rfl, .of hh5, ints_ix hSn hwf, o, _, _, rfl, rfl, ho5, by rw [List.length_map]; exact hO1000, ?_⟩
      refine go _ (O ++ [S.getD x 0]) (same_put s5 ho0) (tups_put ho5) ?_ ?_ ?_ rfl
      · rw [upd_ne heo]; exact he5
      · rw [upd_same, List.map_append]; rfl
      · rw [upd_ne how.symm]; exact hw5
    · have hne : decide (V.str i.word = V.str "write") = false := by
        cases i with
        | set x c => show decide (V.str "set" = V.str "write") = false; decide +kernel
        | copy x c => show decide (V.str "copy" = V.str "write") = false; decide +kernel
        | add x y c => show decide (V.str "add" = V.str "write") = false; decide +kernel
        | scale x c => show decide (V.str "scale" = V.str "write") = false; decide +kernel
        | swap x c => show decide (V.str "swap" = V.str "write") = false; decide +kernel
        | read x => show decide (V.str "read" = V.str "write") = false; decide +kernel
        | write x => exact absurd ⟨x, rfl⟩ hwr
      refine iteB false hne (iteF ?_)
      refine go H5 O s5 (fun _ _ h => h) he5 ho5 hw5 ?_
      cases i with
      | write x => exact absurd ⟨x, rfl⟩ hwr
      | _ => simp [outL]
  · rintro σ H5 ⟨hd, S, J, O, v7, rfl, s5, k5, he5, hh5, ho5, hw5, hSn, hinS, hinJ, hJ, hO, q1, q2⟩
    rw [List.drop_eq_nil_of_le (by omega)] at q1 q2
    simp only [runL, List.append_nil] at q1 q2
    refine ⟨.ref hd, rfl, .ref o, rfl, o, _, rfl, .inl ⟨.of ho5, fun t2 ht2 => ⟨(by show 2 ≤ sizeLine; decide), fun t ht => ?_⟩⟩⟩
    have s6 : Same H5 (upd H5 t2 (.tup (O.map V.int))) := new_same ht2
    have s7 := new_same ht (o := .tup [.ref hd, .ref t2])
    refine q t hd t2 _ (s5.trans (s6.trans s7)) upd_same ?_ ?_
    · rw [q1]; exact s7 _ _ (s6 _ _ hh5)
    · rw [q2]; exact s7 _ _ upd_same
/-! ## a drawn tuple -/
abbrev sTuple : Stmt := topS 28
abbrev nTuple : List Str := ["_law_urn_here", "_law_p", "_law_count", "_law_turn"]
abbrev pTuple : List Str := ["_law_urn_here", "_law_p", "_law_count"]
theorem scTuple : FnScope nTuple pTuple (defScope sTuple) := ⟨rfl, rfl, rfl, by decide +kernel, rfl, by decide +kernel, by decide +kernel⟩
def spTuple : Sp := fun vs H Q _ => ∃ (u : Addr) (p : Int) (c : Nat), vs = [.ref u, .int p, .int c] ∧ Urn H u ∧ 2 ≤ p ∧ p ≤ 10007 ∧ c ≤ 1000 ∧
  ∀ (t : Addr) (ns : List Int) (H' : Hp), Ext u H H' → H' t = some (.tup (ns.map V.int)) → ns.length = c → InP p ns → Q (.ref t) H'
theorem ok_tuple {f fT fO : Addr} {fd fdT fdO : FuncData} (T : Txt mg) (F : Fun K "_law_tuple" "_law_tuple" sTuple f fd) (DT : DefAt K mg "_law_take" sTake ["_law_urn_here", "_law_below"] fT fdT)
    (GT : FnOk P w K mg base CX0 1 fT fdT ["_law_urn_here", "_law_below"] spTake) (DO : DefAt K mg "_law_of" sOf ["_law_urn_here", "_law_items"] fO fdO)
    (GO : FnOk P w K mg base CX0 2 fO fdO ["_law_urn_here", "_law_items"] spOf) : FnOk P w K mg base CX0 3 f fd pTuple spTuple := by
  refine F.ok scTuple (fun vs H Q E h => ?_) (fun cdv A outer s H vs Q E hr h => ?_)
  · obtain ⟨u, p, c, rfl, _⟩ := h
    rfl
  obtain ⟨u, p, c, rfl, hu, hp1, hp2, hc, q⟩ := h
  have hr1 : Room 1 _ := hr.mono (by decide)
  refine ⟨_, pss_one (ps_ret (pe_callTy call_tuple_of (by rfl) T.tuple (by decide +kernel) (pa_cons (pe_lc (own := [("_law_turn", 3)]) (g := gName 3) (tt := tYes) rfl scTuple.nd (pi_range1 rfl T.range (pa_cons (pv 2) pa_nil))
    (blkOk_by (N := nTuple) (sc := defScope sTuple) (by decide +kernel)) (fun _ _ _ _ _ => pg_name (i := 3) scTuple.nd rfl (.inl rfl)) (fun _ _ _ _ _ => pts_nil)
    (fun _ _ _ _ _ => pe_call GO hr rfl DO.m DO.fn.kp DO.b .nil pass0 (pa_cons (pv 0) (pa_cons (pe_lst (pa_cons pe_int (pa_cons pe_int (pa_cons (pe_op op_sub (pv 1) pe_int)
      (pa_cons (pe_call GT hr1 rfl DT.m DT.fn.kp DT.b .nil pass0 (pa_cons (pv 0) (pa_cons (pv 1) pa_nil))) (pa_cons (pe_call GT hr1 rfl DT.m DT.fn.kp DT.b .nil pass0 (pa_cons (pv 0) (pa_cons (pv 1) pa_nil))) pa_nil)))))) pa_nil)))) pa_nil))), ?_⟩
  refine ⟨.int c, rfl, c, rfl, by omega, by omega, fun D hD => ?_⟩
  have hDu : D ≠ u := (hu.ne hD).symm
  refine lc_range (lo := 0) (n := (c : Int).toNat) (fun i H' => ∃ ns : List Int, Ext u H H' ∧ H' D = some (.lst (ns.map V.int)) ∧ ns.length = i ∧ InP p ns) ⟨[], Ext.new hu hD, upd_same, rfl, fun z hz => absurd hz List.not_mem_nil⟩ ?_ ?_
  · rintro i H1 hi ⟨ns, e1, h1, hl, hin⟩
    refine ⟨rfl, ?_⟩
    refine ⟨.ref u, rfl, .int p, rfl, p, 1, rfl, rfl, .ref u, rfl, .int p, rfl, u, p, rfl, e1.urn, by omega, by omega, fun r H2 e2 hr0 hrp => ?_⟩
    refine ⟨.ref u, rfl, .int p, rfl, u, p, rfl, e2.urn, by omega, by omega, fun r' H3 e3 hr0' hrp' => ?_⟩
    refine ⟨(by show 5 ≤ sizeLine; decide), fun l hl' => ?_⟩
    refine ⟨u, l, _, rfl, (Ext.new e3.urn hl').urn, (e3.urn.ne hl').symm, upd_same, (by show 1 ≤ 5; decide), (by show 5 ≤ 1000; decide), fun x H4 e4 hx => ?_⟩
    obtain ⟨z, rfl, hz0, hzp⟩ : ∃ z : Int, x = .int z ∧ 0 ≤ z ∧ z < p := by
      simp only [List.mem_cons, List.not_mem_nil, or_false] at hx
      rcases hx with rfl | rfl | rfl | rfl | rfl
      · exact ⟨_, rfl, by omega, by omega⟩
      · exact ⟨_, rfl, by omega, by omega⟩
      · exact ⟨_, rfl, by omega, by omega⟩
      · exact ⟨_, rfl, hr0, hrp⟩
      · exact ⟨_, rfl, hr0', hrp'⟩
    have e14 : Ext u H1 H4 := e2.trans (e3.trans ((Ext.new e3.urn hl').trans e4))
    refine ⟨ns.map V.int, e14.keep _ _ hDu h1, by rw [List.length_map]; exact small1000 (by omega), ns ++ [z], (e1.trans e14).put hD hDu, ?_, ?_, ?_⟩
    · rw [upd_same, List.map_append]; rfl
    · rw [List.length_append, hl]; rfl
    · intro y hy
      rcases List.mem_append.mp hy with hy | hy
      · exact hin y hy
      · rw [List.mem_singleton.mp hy]
        exact ⟨hz0, hzp⟩
  · rintro H1 ⟨ns, e1, h1, hl, hin⟩
    refine ⟨D, _, rfl, .inl ⟨.of h1, fun t ht => q t ns _ (e1.trans (Ext.new e1.urn ht)) upd_same (by omega) hin⟩⟩
end
end K13
end
section
set_option maxRecDepth 100000
set_option maxHeartbeats 1000000
/-! zip of three tuples of one length: the iterators at n, n + 1, n + 2, their tuple at n + 3, the one that is handed out at n + 4, the zip at n + 5 -/
namespace K13
open PySem RZ
abbrev Tri (h : Heap) (T : Addr) (a b c : Value) : Prop := h.get? T = some { cls := .type "tuple", data := .seq #[a, b, c] }
theorem adr {a b : Nat} (h : a ≠ b) : @Ne Addr a b := h
theorem z3_typeCall (a b c : Value) : checkTypeCall "zip" ⟨[a, b, c], []⟩ = pure () := by kernel_rfl
theorem z3_newCall (a b c : Value) : checkBuiltinCall "zip.__new__" ⟨[.type "zip", a, b, c], []⟩ = pure () := by kernel_rfl
theorem z3_args (a b c d : Value) : argsOk "object.__init__" ⟨[a, b, c, d], []⟩ := by
  unfold argsOk
  rw [signature?_of (id := "object.__init__") (n := ['_', '_', 't', 'i', 'n', 'i', '_', '_']) (o := ['t', 'c', 'e', 'j', 'b', 'o']) (by kernel_rfl) F.owner_object]
  kernel_rfl
section
variable {prog : Program} {w : World} {A : Around} {E : Value → Shared → Prop} {s : Shared}
theorem tri_put {T : Addr} {a b c x : Value} {k : Nat} {Q : Unit → Shared → Prop} (hT : Tri s.heap T a b c)
    (h : ∀ g : Heap, g.get? T = some { cls := .type "tuple", data := .seq ((#[a, b, c] : Array Value).setIfInBounds k x) } → Heap.SameBut T s.heap g → Q () { s with heap := g }) :
    wpAny (model prog w) A (updateSeq T (·.setIfInBounds k x)) Q E s := by
  refine wpAny_updateSeq hT rfl (h _ ?_ (Heap.SameBut.update ..))
  rw [Heap.get?_update_self _ hT rfl]
  simp [Obj.mapSeq]
/-- what three iterators and their zip stand for, at place k -/
structure Z3 (h : Heap) (n l1 l2 l3 k : Nat) (f0 : Value) : Prop where
  z : IsZip h (n + 5) (n + 3) (n + 4) f0
  ti : Tri h (n + 3) (.ref n) (.ref (n + 1)) (.ref (n + 2))
  to : ∃ a b c, Tri h (n + 4) a b c
  i1 : h.IsTupleIter n l1 k
  i2 : h.IsTupleIter (n + 1) l2 k
  i3 : h.IsTupleIter (n + 2) l3 k
theorem z3_next {n l1 l2 l3 k : Nat} {xs ys zs : Array Value} {x y c : Value} {Q : Value → Shared → Prop} (L1 : l1 < n) (L2 : l2 < n) (L3 : l3 < n) (Z : Z3 s.heap n l1 l2 l3 k .none)
    (t1 : s.heap.IsTuple l1 xs) (t2 : s.heap.IsTuple l2 ys) (t3 : s.heap.IsTuple l3 zs) (hx : xs[k]? = some x) (hy : ys[k]? = some y) (hc : zs[k]? = some c)
    (hQ : ∀ g : Heap, Z3 g n l1 l2 l3 (k + 1) (rawInt s.heap.objs.size) → Tri g s.heap.objs.size x y c →
      (∀ q o, (q < n ∨ q = n + 3 ∨ n + 5 < q) → s.heap.get? q = some o → g.get? q = some o) → Q (.ref s.heap.objs.size) { s with heap := g }) :
    wpAny (model prog w) A (Builtin.«zip.__next__» ⟨[.ref (n + 5)], []⟩) (fun fin s' => ∃ v, fin = .done (.ret v) ∧ Q v s') E s := by
  obtain ⟨hz, hTI, ⟨a, b, d, hTO⟩, h1, h2, h3⟩ := Z
  show wpAny _ _ (field (.ref (n + 5)) 2 >>= _) _ _ _
  refine wpAny_bind (wpAny_field hz rfl (x := .bool false) rfl ?_)
  show wpAny _ _ (field (.ref (n + 5)) 3 >>= _) _ _ _
  refine wpAny_bind (wpAny_field hz rfl (x := .ref (n + 3)) rfl ?_)
  refine wpAny_bind (wpAny_seqItems hTI rfl ?_)
  show wpAny _ _ (Builtin.SmallTypes.ownedTupleIsFree (.ref (n + 5)) >>= _) _ _ _
  refine wpAny_bind ?_
  unfold Builtin.SmallTypes.ownedTupleIsFree
  refine wpAny_bind (wpAny_field hz rfl (x := .none) rfl (wpAny_pure ?_))
  simp only [if_true]
  refine wpAny_bind (wpAny_rule ?_)
  refine wpAny_bind (wpAny_field hz rfl (x := .ref (n + 4)) rfl ?_)
  refine wpAny_bind (wpAny_setField_rec hz (by simp) fun g1 z1 e1 => ?_)
  replace z1 : IsZip g1 (n + 5) (n + 3) (n + 4) .ellipsis := z1
  refine wpAny_bind ?_
  simp only [List.zipIdx_cons, List.zipIdx_nil, List.forIn_cons, List.forIn_nil]
  -- the first
  refine wpAny_bind (wpAny_bind (wpAny_onRaise ?_))
  show wpAny _ _ (Builtin.SmallTypes.nextOf (.ref n) >>= _) _ _ _
  refine wpAny_bind (nextOf_tuple_item (h1.extBut e1.extBut (adr (by omega))) (t1.extBut e1.extBut (adr (by omega))) hx fun g2 j1 e2 => wpAny_pure ?_)
  have to2 : Tri g2 (n + 4) a b d := e2.extBut _ _ (adr (by omega)) (e1.extBut _ _ (adr (by omega)) hTO)
  refine wpAny_bind (wpAny_seqItems to2 rfl ?_)
  refine wpAny_bind (tri_put to2 fun g3 to3 e3 => ?_)
  replace to3 : Tri g3 (n + 4) x b d := to3
  refine wpAny_bind (wpAny_letGo (wpAny_pure ?_))
  -- the second
  refine wpAny_bind (wpAny_bind (wpAny_onRaise ?_))
  show wpAny _ _ (Builtin.SmallTypes.nextOf (.ref (n + 1)) >>= _) _ _ _
  refine wpAny_bind (nextOf_tuple_item (((h2.extBut e1.extBut (adr (by omega))).extBut e2.extBut (adr (by omega))).extBut e3.extBut (adr (by omega))) (((t2.extBut e1.extBut (adr (by omega))).extBut e2.extBut (adr (by omega))).extBut e3.extBut (adr (by omega))) hy fun g4 j2 e4 => wpAny_pure ?_)
  have to4 : Tri g4 (n + 4) x b d := e4.extBut _ _ (adr (by omega)) to3
  refine wpAny_bind (wpAny_seqItems to4 rfl ?_)
  refine wpAny_bind (tri_put to4 fun g5 to5 e5 => ?_)
  replace to5 : Tri g5 (n + 4) x y d := to5
  refine wpAny_bind (wpAny_letGo (wpAny_pure ?_))
  -- the third
  have k5 : ∀ q o, q ≠ n + 5 → q ≠ n → q ≠ n + 4 → q ≠ n + 1 → s.heap.get? q = some o → g5.get? q = some o := fun q o c1 c2 c3 c4 e =>
    e5.extBut _ _ c3 (e4.extBut _ _ c4 (e3.extBut _ _ c3 (e2.extBut _ _ c2 (e1.extBut _ _ c1 e))))
  have t35 : g5.IsTuple l3 zs := by
    obtain ⟨o3, q1, q2⟩ := t3
    exact ⟨o3, k5 _ _ (adr (by omega)) (adr (by omega)) (adr (by omega)) (adr (by omega)) q1, q2⟩
  refine wpAny_bind (wpAny_bind (wpAny_onRaise ?_))
  show wpAny _ _ (Builtin.SmallTypes.nextOf (.ref (n + 2)) >>= _) _ _ _
  refine wpAny_bind (nextOf_tuple_item (s := { s with heap := g5 }) (h3.at fun o e => k5 _ o (adr (by omega)) (adr (by omega)) (adr (by omega)) (adr (by omega)) e) t35 hc fun g6 j3 e6 => wpAny_pure ?_)
  have to6 : Tri g6 (n + 4) x y d := e6.extBut _ _ (adr (by omega)) to5
  refine wpAny_bind (wpAny_seqItems to6 rfl ?_)
  refine wpAny_bind (tri_put to6 fun g7 to7 e7 => ?_)
  replace to7 : Tri g7 (n + 4) x y c := to7
  refine wpAny_bind (wpAny_letGo (wpAny_pure (wpAny_pure ?_)))
  -- the new tuple
  refine wpAny_bind (wpAny_seqItems to7 rfl ?_)
  refine wpAny_bind (wpAny_newTuple ?_)
  have hsz : g7.objs.size = s.heap.objs.size := by rw [e7.1, e6.1, e5.1, e4.1, e3.1, e2.1, e1.1]
  have z7 : IsZip g7 (n + 5) (n + 3) (n + 4) .ellipsis := e7.extBut _ _ (adr (by omega)) (e6.extBut _ _ (adr (by omega)) (e5.extBut _ _ (adr (by omega)) (e4.extBut _ _ (adr (by omega)) (e3.extBut _ _ (adr (by omega)) (e2.extBut _ _ (adr (by omega)) z1)))))
  have k7 : ∀ q o, q ≠ n + 5 → q ≠ n → q ≠ n + 4 → q ≠ n + 1 → q ≠ n + 2 → s.heap.get? q = some o → g7.get? q = some o := fun q o c1 c2 c3 c4 c5 e =>
    e7.extBut _ _ c3 (e6.extBut _ _ c5 (k5 q o c1 c2 c3 c4 e))
  have i17 : g7.IsTupleIter n l1 (k + 1) := ((((j1.extBut e3.extBut (adr (by omega))).extBut e4.extBut (adr (by omega))).extBut e5.extBut (adr (by omega))).extBut e6.extBut (adr (by omega))).extBut e7.extBut (adr (by omega))
  have i27 : g7.IsTupleIter (n + 1) l2 (k + 1) := ((j2.extBut e5.extBut (adr (by omega))).extBut e6.extBut (adr (by omega))).extBut e7.extBut (adr (by omega))
  have i37 : g7.IsTupleIter (n + 2) l3 (k + 1) := j3.extBut e7.extBut (adr (by omega))
  have hlt : n + 5 < g7.objs.size := Heap.lt_size z7
  show wpAny _ _ (Builtin.SmallTypes.ownedTupleHandOut (.ref (n + 5)) (.ref g7.objs.size) >>= _) _ _ _
  refine wpAny_bind ?_
  unfold Builtin.SmallTypes.ownedTupleHandOut
  have z8 : IsZip (g7.push { cls := .type "tuple", data := .seq #[x, y, c] }) (n + 5) (n + 3) (n + 4) .ellipsis := Heap.get?_push_of_some _ z7
  refine wpAny_bind (wpAny_setField_rec z8 (by simp) fun g9 z9 e9 => ?_)
  replace z9 : IsZip g9 (n + 5) (n + 3) (n + 4) (rawInt g7.objs.size) := z9
  refine wpAny_setField_rec z9 (by simp) fun ga za ea => ?_
  replace za : IsZip ga (n + 5) (n + 3) (n + 4) (rawInt g7.objs.size) := za
  have up : ∀ q o, q ≠ n + 5 → g7.get? q = some o → ga.get? q = some o := fun q o c1 e => ea.extBut _ _ c1 (e9.extBut _ _ c1 (Heap.get?_push_of_some _ e))
  have hT : Tri ga g7.objs.size x y c := ea.extBut _ _ (adr (by omega)) (e9.extBut _ _ (adr (by omega)) (Heap.get?_push_size _ rfl))
  rw [hsz] at za hT
  refine wpAny_pure ⟨_, rfl, ?_⟩
  show Q (.ref g7.objs.size) _
  rw [hsz]
  refine hQ ga ⟨za, up _ _ (adr (by omega)) (k7 _ _ (adr (by omega)) (adr (by omega)) (adr (by omega)) (adr (by omega)) (adr (by omega)) hTI), ⟨x, y, c, up _ _ (adr (by omega)) to7⟩, i17.at fun o e => up _ o (adr (by omega)) e, i27.at fun o e => up _ o (adr (by omega)) e, i37.at fun o e => up _ o (adr (by omega)) e⟩ hT fun q o hq e => ?_
  exact up q o (adr (by omega)) (k7 q o (adr (by omega)) (adr (by omega)) (adr (by omega)) (adr (by omega)) (adr (by omega)) e)
/-- the first is at its end -/
theorem z3_end {n l1 l2 l3 k : Nat} {xs : Array Value} {Q : Fin → Shared → Prop} (hh : A.handled = none) (L1 : l1 < n) (Z : Z3 s.heap n l1 l2 l3 k .none) (t1 : s.heap.IsTuple l1 xs) (hx : xs[k]? = none)
    (hE : ∀ (g : Heap) e, (∀ q o, q ≠ n + 5 → q ≠ n → s.heap.get? q = some o → g.get? q = some o) → (∃ o, g.get? e = some o ∧ o.cls = .type "StopIteration") → E (.ref e) { s with heap := g }) :
    wpAny (model prog w) A (Builtin.«zip.__next__» ⟨[.ref (n + 5)], []⟩) Q E s := by
  obtain ⟨hz, hTI, ⟨a, b, d, hTO⟩, h1, h2, h3⟩ := Z
  show wpAny _ _ (field (.ref (n + 5)) 2 >>= _) _ _ _
  refine wpAny_bind (wpAny_field hz rfl (x := .bool false) rfl ?_)
  show wpAny _ _ (field (.ref (n + 5)) 3 >>= _) _ _ _
  refine wpAny_bind (wpAny_field hz rfl (x := .ref (n + 3)) rfl ?_)
  refine wpAny_bind (wpAny_seqItems hTI rfl ?_)
  show wpAny _ _ (Builtin.SmallTypes.ownedTupleIsFree (.ref (n + 5)) >>= _) _ _ _
  refine wpAny_bind ?_
  unfold Builtin.SmallTypes.ownedTupleIsFree
  refine wpAny_bind (wpAny_field hz rfl (x := .none) rfl (wpAny_pure ?_))
  simp only [if_true]
  refine wpAny_bind (wpAny_rule ?_)
  refine wpAny_bind (wpAny_field hz rfl (x := .ref (n + 4)) rfl ?_)
  refine wpAny_bind (wpAny_setField_rec hz (by simp) fun g1 z1 e1 => ?_)
  replace z1 : IsZip g1 (n + 5) (n + 3) (n + 4) .ellipsis := z1
  refine wpAny_bind ?_
  simp only [List.zipIdx_cons, List.zipIdx_nil, List.forIn_cons, List.forIn_nil]
  refine wpAny_bind (wpAny_bind (wpAny_onRaise ?_))
  show wpAny _ _ (Builtin.SmallTypes.nextOf (.ref n) >>= _) _ _ _
  refine wpAny_bind (nextOf_tuple_end hh (h1.extBut e1.extBut (adr (by omega))) (t1.extBut e1.extBut (adr (by omega))) hx fun g2 e e2 he => ?_)
  obtain ⟨oe, hoe, hce⟩ := he
  have z2 : IsZip g2 (n + 5) (n + 3) (n + 4) .ellipsis := e2 _ _ (adr (by omega)) z1
  have hez : e ≠ n + 5 := fun x => by
    subst x
    rw [z2] at hoe
    cases hoe
    simp at hce
  exact wpAny_setField_rec z2 (by simp) fun g3 _ e3 => hE g3 e (fun q o c1 c2 x => e3.extBut _ _ c1 (e2 _ _ c2 (e1.extBut _ _ c1 x))) ⟨oe, e3.extBut _ _ hez hoe, hce⟩
theorem z3_draw {n l1 l2 l3 k : Nat} {xs ys zs : Array Value} {x y c : Value} {Q : Option Value → Shared → Prop} (L1 : l1 < n) (L2 : l2 < n) (L3 : l3 < n) (Z : Z3 s.heap n l1 l2 l3 k .none)
    (t1 : s.heap.IsTuple l1 xs) (t2 : s.heap.IsTuple l2 ys) (t3 : s.heap.IsTuple l3 zs) (hx : xs[k]? = some x) (hy : ys[k]? = some y) (hc : zs[k]? = some c)
    (hQ : ∀ g : Heap, Z3 g n l1 l2 l3 (k + 1) (rawInt s.heap.objs.size) → Tri g s.heap.objs.size x y c →
      (∀ q o, (q < n ∨ q = n + 3 ∨ n + 5 < q) → s.heap.get? q = some o → g.get? q = some o) → Q (some (.ref s.heap.objs.size)) { s with heap := g }) :
    wpAny (model prog w) A (pyNext (.ref (n + 5))) Q E s := by
  have hT : s.TypeIs (.ref (n + 5)) "zip" := ⟨_, Z.z, rfl⟩
  unfold pyNext
  refine wpAny_bind (wpAny_attempt (wpAny_callSpecial?_slot (name := Str.ofString "__next__") hT F.slot_zip_next (wpAny_call_entry F.slot_zip_next hT F.entry_zip_next ?_ (F.args_zip_next_1 _))))
  exact z3_next L1 L2 L3 Z t1 t2 t3 hx hy hc fun g a1 a2 a3 => wpAny_pure (hQ g a1 a2 a3)
theorem z3_stop {n l1 l2 l3 k : Nat} {xs : Array Value} {Q : Option Value → Shared → Prop} (hh : A.handled = none) (L1 : l1 < n) (Z : Z3 s.heap n l1 l2 l3 k .none) (t1 : s.heap.IsTuple l1 xs) (hx : xs[k]? = none)
    (hQ : ∀ g : Heap, (∀ q o, q ≠ n + 5 → q ≠ n → s.heap.get? q = some o → g.get? q = some o) → Q none { s with heap := g }) : wpAny (model prog w) A (pyNext (.ref (n + 5))) Q E s := by
  have hT : s.TypeIs (.ref (n + 5)) "zip" := ⟨_, Z.z, rfl⟩
  unfold pyNext
  refine wpAny_bind (wpAny_attempt (wpAny_callSpecial?_slot (name := Str.ofString "__next__") hT F.slot_zip_next (wpAny_call_entry F.slot_zip_next hT F.entry_zip_next (z3_end hh L1 Z t1 hx fun g e hk he => ?_) (F.args_zip_next_1 _))))
  obtain ⟨o, ho, hc⟩ := he
  exact wpAny_bind (wpAny_isInstance (T := "StopIteration") (b := true) ⟨o, ho, hc⟩ isSubtype_stop (wpAny_pure (hQ _ hk)))
end
/-! ### the call -/
abbrev itO (l : Addr) : Obj := { cls := .type "tuple_iterator", data := .fields #[.ref l, .int 0 0] }
abbrev z3H (h : Heap) (l1 l2 l3 : Addr) : Heap :=
  (((((h.push (itO l1)).push (itO l2)).push (itO l3)).push { cls := .type "tuple", data := .seq #[.ref h.objs.size, .ref (h.push (itO l1)).objs.size, .ref ((h.push (itO l1)).push (itO l2)).objs.size] }).push { cls := .type "tuple", data := .seq #[.none, .none, .none] })
theorem z3_new (l1 l2 l3 : Addr) (xs ys zs : Array Value) :
    Meets (Builtin.«zip.__new__» ⟨[.type "zip", .ref l1, .ref l2, .ref l3], []⟩) (fun _ R s => s.heap.IsTuple l1 xs ∧ s.heap.IsTuple l2 ys ∧ s.heap.IsTuple l3 zs ∧
      R (.ok (.ret (.ref (z3H s.heap l1 l2 l3).objs.size))) { s with heap := (z3H s.heap l1 l2 l3).push { cls := .type "zip", data := .fields #[.none, .bool false, .bool false, .ref (((s.heap.push (itO l1)).push (itO l2)).push (itO l3)).objs.size,
        .ref ((((s.heap.push (itO l1)).push (itO l2)).push (itO l3)).push { cls := .type "tuple", data := .seq #[.ref s.heap.objs.size, .ref (s.heap.push (itO l1)).objs.size, .ref ((s.heap.push (itO l1)).push (itO l2)).objs.size] }).objs.size] } }) :=
  .of_wp fun prog w A R s h => by
    obtain ⟨hp, g, d, tk, os⟩ := s
    obtain ⟨t1, t2, t3, h⟩ := h
    have hsub := sub_zip
    have q1 : Heap.IsTuple (Shared.heap ⟨hp, g, d, tk, os⟩) l1 xs := t1
    have q2 : Heap.IsTuple (Shared.heap ⟨hp.push (itO l1), g, d, tk, os⟩) l2 ys := Heap.IsTuple.push t2 _
    have q3 : Heap.IsTuple (Shared.heap ⟨(hp.push (itO l1)).push (itO l2), g, d, tk, os⟩) l3 zs := Heap.IsTuple.push (Heap.IsTuple.push t3 _) _
    wp_walk using wpAny_pyIter_tuple q1, wpAny_pyIter_tuple q2, wpAny_pyIter_tuple q3
    exact ⟨_, rfl, h⟩
section
variable {prog : Program} {w : World} {A : Around} {E : Value → Shared → Prop} {s : Shared}
theorem z3_call {l1 l2 l3 : Addr} {xs ys zs : Array Value} {Q : Value → Shared → Prop} (t1 : s.heap.IsTuple l1 xs) (t2 : s.heap.IsTuple l2 ys) (t3 : s.heap.IsTuple l3 zs)
    (h : ∀ g : Heap, Z3 g s.heap.objs.size l1 l2 l3 0 .none → (∀ q o, s.heap.get? q = some o → g.get? q = some o) → Q (.ref (s.heap.objs.size + 5)) { s with heap := g }) :
    wpAny (model prog w) A (call (.type "zip") [.ref l1, .ref l2, .ref l3]) Q E s := by
  refine callType_new F.called_zip (by decide) (z3_typeCall _ _ _) (z3_newCall _ _ _) (fun obj => z3_args obj _ _ _) F.entry_zip_new (z3_new l1 l2 l3 xs ys zs) ⟨t1, t2, t3, ?_⟩
  have s1 : ∀ (g : Heap) (o : Obj), (g.push o).objs.size = g.objs.size + 1 := fun g o => Heap.size_push ..
  show _ ∧ _
  have up : ∀ {g : Heap} {q : Addr} {o : Obj} (o' : Obj), g.get? q = some o → (g.push o').get? q = some o := fun o' e => Heap.get?_push_of_some _ e
  have nw : ∀ (g : Heap) (n : Nat) (o : Obj), g.objs.size = n → o.isFreed = false → (g.push o).get? n = some o := fun g n o e hf => by
    rw [← e]
    exact Heap.get?_push_size _ hf
  have e5 : (z3H s.heap l1 l2 l3).objs.size = s.heap.objs.size + 5 := by simp only [z3H, s1]
  have e4 : ((((s.heap.push (itO l1)).push (itO l2)).push (itO l3)).push { cls := .type "tuple", data := .seq #[.ref s.heap.objs.size, .ref (s.heap.push (itO l1)).objs.size, .ref ((s.heap.push (itO l1)).push (itO l2)).objs.size] }).objs.size = s.heap.objs.size + 4 := by simp only [s1]
  have e3 : (((s.heap.push (itO l1)).push (itO l2)).push (itO l3)).objs.size = s.heap.objs.size + 3 := by simp only [s1]
  have e2 : ((s.heap.push (itO l1)).push (itO l2)).objs.size = s.heap.objs.size + 2 := by simp only [s1]
  have e1 : (s.heap.push (itO l1)).objs.size = s.heap.objs.size + 1 := by simp only [s1]
  have g0 : (s.heap.push (itO l1)).get? s.heap.objs.size = some (itO l1) := nw _ _ _ rfl rfl
  have g1 : ((s.heap.push (itO l1)).push (itO l2)).get? (s.heap.objs.size + 1) = some (itO l2) := nw _ _ _ e1 rfl
  have g2 : (((s.heap.push (itO l1)).push (itO l2)).push (itO l3)).get? (s.heap.objs.size + 2) = some (itO l3) := nw _ _ _ e2 rfl
  rw [e5, e4, e3]
  refine ⟨⟨_, nw _ _ _ e5 rfl, rfl⟩, h _ ⟨nw _ _ _ e5 rfl, up _ (up _ ?_), ⟨_, _, _, up _ (nw _ _ _ e4 rfl)⟩, ⟨_, up _ (up _ (up _ (up _ (up _ g0)))), rfl, rfl⟩, ⟨_, up _ (up _ (up _ (up _ g1))), rfl, rfl⟩, ⟨_, up _ (up _ (up _ g2)), rfl, rfl⟩⟩ fun q o e => up _ (up _ (up _ (up _ (up _ (up _ e)))))⟩
  have g3 := nw (((s.heap.push (itO l1)).push (itO l2)).push (itO l3)) _ { cls := .type "tuple", data := .seq #[.ref s.heap.objs.size, .ref (s.heap.push (itO l1)).objs.size, .ref ((s.heap.push (itO l1)).push (itO l2)).objs.size] } e3 rfl
  rw [g3, e1, e2]
end
end K13
end
section
set_option maxRecDepth 100000
namespace K13
open PySem L2
/-- three tuples side by side, the items in new triples -/
def It3 (K : PySem.W.Frag) (a b c : Addr) : It :=
  ⟨fun i H => ∃ (xs ys zs : List V) (x y z : V), SqT K H a xs ∧ SqT K H b ys ∧ SqT K H c zs ∧ xs[i]? = some x ∧ ys[i]? = some y ∧ zs[i]? = some z,
    fun i H v H' => ∃ T x y z, v = .ref T ∧ H T = none ∧ H' = L2.upd H T (.tup [x, y, z]) ∧ (∀ xs, SqT K H a xs → xs[i]? = some x) ∧ (∀ ys, SqT K H b ys → ys[i]? = some y) ∧ ∀ zs, SqT K H c zs → zs[i]? = some z,
    fun i H => ∃ xs : List V, SqT K H a xs ∧ xs.length ≤ i⟩
def Y3 (xs ys zs : List V) : Nat → Hp → V → Hp → Prop := fun i H v H' => ∃ T x y z, v = .ref T ∧ H T = none ∧ H' = L2.upd H T (.tup [x, y, z]) ∧ xs[i]? = some x ∧ ys[i]? = some y ∧ zs[i]? = some z
theorem walk_zip3 {K : PySem.W.Frag} {a b c : Addr} {xs ys zs : List V} {n : Nat} (h1 : xs.length = n) (h2 : ys.length = n) (h3 : zs.length = n) :
    Walk (It3 K a b c) n (fun H => SqT K H a xs ∧ SqT K H b ys ∧ SqT K H c zs) (Y3 xs ys zs) :=
  ⟨fun i _ hi q => ⟨xs, ys, zs, xs[i], ys[i], zs[i], q.1, q.2.1, q.2.2, List.getElem?_eq_getElem _, List.getElem?_eq_getElem _, List.getElem?_eq_getElem _⟩, fun _ q => ⟨xs, q.1, by omega⟩,
    fun _ _ _ _ _ q ⟨T, x, y, z, e1, e2, e3, f1, f2, f3⟩ => ⟨T, x, y, z, e1, e2, e3, f1 _ q.1, f2 _ q.2.1, f3 _ q.2.2⟩⟩
theorem fp_in {q n : Nat} (h : q ∈ [n + 5, n + 3, n + 4, n, n + 1, n + 2]) : n ≤ q ∧ q ≤ n + 5 := by
  simp only [List.mem_cons, List.not_mem_nil, or_false] at h
  omega
theorem fp_out {q n : Nat} (h : q ∉ [n + 5, n + 3, n + 4, n, n + 1, n + 2]) : q < n ∨ n + 5 < q := by
  simp only [List.mem_cons, List.not_mem_nil, or_false] at h
  omega
theorem turn_zip3 {P : Program} {w : World} {K : PySem.W.Frag} {elts : List Expr} {kk : Nat} {tpos : Pos} {n a b c : Nat} (M1 : a < n) (M2 : b < n) (M3 : c < n) :
    Turn P w K (.Tuple elts kk tpos) (It3 K a b c) [n + 5, n + 3, n + 4, n, n + 1, n + 2] (n + 5) (fun i h => Z3 h n a b c i .none) where
  mem := by simp
  obj := fun i h Z q hq => by
    obtain ⟨hz, hTI, ⟨x, y, z, hTO⟩, ⟨o1, e1, _, d1⟩, ⟨o2, e2, _, d2⟩, ⟨o3, e3, _, d3⟩⟩ := Z
    have hq' : q = n + 5 ∨ q = n + 3 ∨ q = n + 4 ∨ q = n ∨ q = n + 1 ∨ q = n + 2 := by simpa using hq
    rcases hq' with r | r | r | r | r | r
    · rw [r]; exact ⟨_, hz, fun v u => nomatch u⟩
    · rw [r]; exact ⟨_, hTI, fun v u => nomatch u⟩
    · rw [r]; exact ⟨_, hTO, fun v u => nomatch u⟩
    · rw [r]; exact ⟨o1, e1, fun v u => by rw [d1] at u; cases u⟩
    · rw [r]; exact ⟨o2, e2, fun v u => by rw [d2] at u; cases u⟩
    · rw [r]; exact ⟨o3, e3, fun v u => by rw [d3] at u; cases u⟩
  keep := fun i h h' Z k => by
    obtain ⟨hz, hTI, ⟨x, y, z, hTO⟩, h1, h2, h3⟩ := Z
    exact ⟨k _ (by simp) _ hz, k _ (by simp) _ hTI, ⟨x, y, z, k _ (by simp) _ hTO⟩, h1.at fun o q => k _ (by simp) o q, h2.at fun o q => k _ (by simp) o q, h3.at fun o q => k _ (by simp) o q⟩
  item := by
    intro X hP hw hK hc i pins s σ H E I hf Z hg
    subst hP hw hK
    obtain ⟨xs, ys, zs, x, y, z, q1, q2, q3, hx, hy, hz⟩ := hg
    obtain ⟨is1, rv1, p1, _⟩ := I.tuple q1
    obtain ⟨is2, rv2, p2, _⟩ := I.tuple q2
    obtain ⟨is3, rv3, p3, _⟩ := I.tuple q3
    obtain ⟨u1, hu1, ru1⟩ := rv1.get hx
    obtain ⟨u2, hu2, ru2⟩ := rv2.get hy
    obtain ⟨u3, hu3, ru3⟩ := rv3.get hz
    have hlt : n + 5 < s.heap.objs.size := Heap.lt_size Z.z
    refine z3_draw M1 M2 M3 Z p1 p2 p3 (x := u1) (y := u2) (c := u3) (by simpa using hu1) (by simpa using hu2) (by simpa using hu3) fun g Zg hT hk => ?_
    refine ⟨_, rfl, wpAny_letOwnedTupleGo_zip (s := { s with heap := g }) Zg.z fun g2 z2 sb => ?_⟩
    have hT2 : g2.get? s.heap.objs.size = some { cls := .type "tuple", data := .seq #[u1, u2, u3] } := (sb.2 _ (adr (by omega))).trans hT
    have new : ObjOk X.prog X.w (L2.upd H s.heap.objs.size (.tup [x, y, z])) g2 s.heap.objs.size (.tup [x, y, z]) :=
      ⟨by show 3 ≤ sizeLine; decide, [u1, u2, u3], .cons ru1 (.cons ru2 (.cons ru3 .nil)), ⟨_, hT2, rfl, _, rfl⟩⟩
    have I1 : L2.Inv X pins σ (L2.upd H s.heap.objs.size (.tup [x, y, z])) { s with heap := g2 } :=
      I.turnedNew (t' := s.toks) (ch := [n + 5, n + 3, n + 4, n, n + 1, n + 2]) (fun q o hq e => by
        have hq' := fp_out (q := q) hq
        exact (sb.2 q (adr (by omega))).trans (hk q o (by omega) e)) hf (Nat.le_refl _) new
    refine ⟨.ref s.heap.objs.size, _, I1, rfl, ⟨_, x, y, z, rfl, I.hok.fresh (Nat.le_refl _), rfl, fun l hl => by rw [I.tuple_inj hl q1]; exact hx, fun l hl => by rw [I.tuple_inj hl q2]; exact hy, fun l hl => by rw [I.tuple_inj hl q3]; exact hz⟩, ?_, fun q hq => ?_⟩
    · obtain ⟨_, t1, ⟨x1, x2, x3, t2⟩, j1, j2, j3⟩ := Zg
      exact ⟨z2, (sb.2 _ (adr (by omega))).trans t1, ⟨x1, x2, x3, (sb.2 _ (adr (by omega))).trans t2⟩, j1.at fun o e => (sb.2 _ (adr (by omega))).trans e, j2.at fun o e => (sb.2 _ (adr (by omega))).trans e, j3.at fun o e => (sb.2 _ (adr (by omega))).trans e⟩
    · have hq' := fp_in (q := q) hq
      rw [upd_ne (adr (by omega))]
      exact (hf q hq).1
  done := by
    intro X hP hw hK hc i pins s σ H E I hf Z hg
    subst hP hw hK
    obtain ⟨xs, q1, hl⟩ := hg
    obtain ⟨is1, rv1, p1, _⟩ := I.tuple q1
    have l1 := rv1.length
    refine z3_stop (I.ok.hd hc) M1 Z p1 (by simp; omega) fun g hk => ⟨rfl, I.turnedL (t' := s.toks) (ch := [n + 5, n + 3, n + 4, n, n + 1, n + 2]) (fun q o hq e => ?_) hf⟩
    have hq' := fp_out (q := q) hq
    exact hk q o (adr (by omega)) (adr (by omega)) e
  self := fun A i s Q E Z h => wpAny_pyIter_zip Z.z h
def iZip3 (K : PySem.W.Frag) (ta : TA) : TI := fun σ H R => ta σ H fun vs H1 => ∃ a b c xs ys zs, vs = [.ref a, .ref b, .ref c] ∧ SqT K H1 a xs ∧ SqT K H1 b ys ∧ SqT K H1 c zs ∧ R (It3 K a b c) H1
theorem pi_zip3 {X : Cx} {e1 e2 e3 : Expr} {ta : TA} {p pos tpos : Pos} {elts : List Expr} {kk : Nat} (hg : Gl X "zip") (hm : X.mg "zip" = none) (ha : PA X [e1, e2, e3] ta)
    (hs : starEach [e1, e2, e3] X.env = (false, eval e1 X.env) :: starEach [e2, e3] X.env := by rfl) (hpl : (backTo pos (starEach [e2, e3] X.env)).any (·.1) = false := by rfl) :
    PI X (.Tuple elts kk tpos) (.Call (.Name "zip" p) [e1, e2, e3] [] pos) (iZip3 X.K ta) := by
  refine ⟨fun pins s σ H R I h => ?_⟩
  refine PyProof.Rows.Call_ (ld_blt I hg hm PyProof.Rows.boot_zip (PyProof.Rows.callWith_type1 (thn (ha.run pos pins s σ H _ I h) fun us s1 ⟨vs, H1, I1, r1, q1⟩ => ?_) hs hpl))
  obtain ⟨a, b, c, xs, ys, zs, ex, g1, g2, g3, q⟩ := q1
  subst ex
  cases r1 with
  | cons r rr =>
    cases rr with
    | cons r' rr =>
      cases rr with
      | cons r'' rr =>
        cases rr
        cases r
        cases r'
        cases r''
        obtain ⟨is1, rv1, p1, _⟩ := I1.tuple g1
        obtain ⟨is2, rv2, p2, _⟩ := I1.tuple g2
        obtain ⟨is3, rv3, p3, _⟩ := I1.tuple g3
        obtain ⟨o1, ho1, _⟩ := id p1
        obtain ⟨o2, ho2, _⟩ := id p2
        obtain ⟨o3, ho3, _⟩ := id p3
        refine z3_call (show s1.heap.IsTuple a is1.toArray from p1) (show s1.heap.IsTuple b is2.toArray from p2) (show s1.heap.IsTuple c is3.toArray from p3) fun g Z hk => wpAny_pyIter_zip Z.z ?_
        have I2 : L2.Inv X pins σ H1 { s1 with heap := g } := I1.kept (t' := s1.toks) hk
        refine ⟨s1.heap.objs.size + 5, [s1.heap.objs.size + 5, s1.heap.objs.size + 3, s1.heap.objs.size + 4, s1.heap.objs.size, s1.heap.objs.size + 1, s1.heap.objs.size + 2], _, _, H1, rfl, I2, turn_zip3 (Heap.lt_size ho1) (Heap.lt_size ho2) (Heap.lt_size ho3), Z, fun q hq => ?_, q⟩
        have hle : s1.heap.objs.size ≤ q := (fp_in (q := q) hq).1
        exact I1.fpOk hle (I1.hok.fresh hle)
theorem comb_step (p a : Int) : ∀ {i : Nat} {xs ys zs : List Int} {x y z : Int}, xs[i]? = some x → ys[i]? = some y → zs[i]? = some z → (comb p a xs ys zs)[i]? = some (comb1 p a x y z)
  | 0, x :: xs, y :: ys, z :: zs, _, _, _, h1, h2, h3 => by
    simp at h1 h2 h3
    subst h1 h2 h3
    rfl
  | i + 1, x :: xs, y :: ys, z :: zs, _, _, _, h1, h2, h3 => by
    simp only [List.getElem?_cons_succ] at h1 h2 h3
    simp only [comb, List.getElem?_cons_succ]
    exact comb_step p a h1 h2 h3
  | _, [], _, _, _, _, _, h1, _, _ => by simp at h1
  | _, _ :: _, [], _, _, _, _, _, h2, _ => by simp at h2
  | _, _ :: _, _ :: _, [], _, _, _, _, _, h3 => by simp at h3
theorem int_of {xs : List Int} {i : Nat} {v : V} (h : (xs.map V.int)[i]? = some v) : ∃ z, xs[i]? = some z ∧ v = .int z := by
  rw [List.getElem?_map] at h
  cases e : xs[i]? with
  | none => rw [e] at h; cases h
  | some z => rw [e] at h; exact ⟨z, rfl, (Option.some.inj h).symm⟩
section
variable {P : Program} {w : World} {K : PySem.W.Frag} {mg : Str → Option Value} {base : Heap}
/-! ## combined -/
abbrev sComb : Stmt := topS 29
abbrev nComb : List Str := ["_law_p", "_law_a", "_law_one", "_law_other", "_law_third", "_law_x", "_law_y", "_law_z"]
abbrev pComb : List Str := ["_law_p", "_law_a", "_law_one", "_law_other", "_law_third"]
theorem scComb : FnScope nComb pComb (defScope sComb) := ⟨rfl, rfl, rfl, by decide +kernel, rfl, by decide +kernel, by decide +kernel⟩
def spComb : Sp := fun vs H Q _ => ∃ (p a : Int) (r1 r2 r3 : Addr) (n : Nat) (xs ys zs : List Int), vs = [.int p, .int a, .ref r1, .ref r2, .ref r3] ∧ 0 < p ∧ p ≤ 10007 ∧ 0 ≤ a ∧ a < p ∧ H r1 = some (.tup (xs.map V.int)) ∧ H r2 = some (.tup (ys.map V.int)) ∧ H r3 = some (.tup (zs.map V.int)) ∧
  xs.length = n ∧ ys.length = n ∧ zs.length = n ∧ n ≤ 1000 ∧ ∀ (t : Addr) (H' : Hp), Same H H' → H' t = some (.tup ((comb p a xs ys zs).map V.int)) → Q (.ref t) H'
theorem ok_comb {f : Addr} {fd : FuncData} (T : Txt mg) (F : Fun K "_law_combined" "_law_combined" sComb f fd) : FnOk P w K mg base CX0 1 f fd pComb spComb := by
  refine F.ok scComb (fun vs H Q E h => ?_) (fun cdv A outer s H vs Q E hr h => ?_)
  · obtain ⟨p, a, r1, r2, r3, n, xs, ys, zs, rfl, _⟩ := h
    rfl
  obtain ⟨p, a, r1, r2, r3, n, xs, ys, zs, rfl, hp0, hp1, ha0, hap, h1, h2, h3, l1, l2, l3, hn, q⟩ := h
  refine ⟨_, pss_one (ps_ret (pe_callTy call_tuple_of (by rfl) T.tuple (by decide +kernel) (pa_cons (pe_lc (own := [("_law_x", 5), ("_law_y", 6), ("_law_z", 7)]) (g := gTup K 3 (gCons (gName 5) (gCons (gName 6) (gCons (gName 7) gNil)))) (tt := tYes) rfl scComb.nd
    (pi_zip3 (by rfl) T.zip (pa_cons (pv 2) (pa_cons (pv 3) (pa_cons (pv 4) pa_nil))))
    (blkOk_by (N := nComb) (sc := defScope sComb) (by decide +kernel))
    (fun _ _ _ _ _ => pg_tup rfl (pgs_cons (pg_name (i := 5) scComb.nd rfl (.inl rfl)) (pgs_cons (pg_name (i := 6) scComb.nd rfl (.inl rfl)) (pgs_cons (pg_name (i := 7) scComb.nd rfl (.inl rfl)) pgs_nil)))) (fun _ _ _ _ _ => pts_nil)
    (fun _ _ _ _ _ => pe_op op_mod (pe_op op_add (pv 5) (pe_op op_mul (pv 1) (pe_op op_sub (pv 6) (pv 7)))) (pv 0))) pa_nil))), ?_⟩
  refine ⟨.ref r1, rfl, .ref r2, rfl, .ref r3, rfl, r1, r2, r3, _, _, _, rfl, .of h1, .of h2, .of h3, fun D hD => ?_⟩
  have cl := comb_len p a l1 l2 l3
  refine lc_it (walk_zip3 (n := n) (by rw [List.length_map, l1]) (by rw [List.length_map, l2]) (by rw [List.length_map, l3])) (fun i H' => Same H H' ∧ H' D = some (.lst (((comb p a xs ys zs).take i).map V.int))) ⟨new_same hD, upd_same⟩
    (fun i H' _ h => ⟨.of (h.1 _ _ h1), .of (h.1 _ _ h2), .of (h.1 _ _ h3)⟩) ?_ ?_
  · rintro i v H1 H2 hi ⟨s1, hD1⟩ ⟨T', x, y, z, rfl, hT', rfl, gx, gy, gz⟩
    obtain ⟨xi, ex, rfl⟩ := int_of gx
    obtain ⟨yi, ey, rfl⟩ := int_of gy
    obtain ⟨zi, ez, rfl⟩ := int_of gz
    have hc := comb_step p a ex ey ez
    have s2 : Same H1 (L2.upd H1 T' (.tup [.int xi, .int yi, .int zi])) := new_same hT'
    refine ⟨T', _, rfl, .of upd_same, rfl, _, _, rfl, _, _, rfl, _, _, rfl, rfl, rfl, ?_⟩
    refine ⟨.int xi, rfl, .int a, rfl, .int yi, rfl, .int zi, rfl, yi, zi, rfl, rfl, a, yi - zi, rfl, rfl, .inl ⟨by omega, by omega⟩, xi, _, rfl, rfl, .int p, rfl, xi + a * (yi - zi), p, rfl, rfl, hp0, ?_⟩
    refine ⟨_, s2 _ _ hD1, by rw [List.length_map, List.length_take]; exact small1000 (by omega), same_put (s1.trans s2) hD, ?_⟩
    rw [upd_same, List.take_add_one, hc, List.map_append]
    rfl
  · rintro H1 ⟨s1, hD1⟩
    rw [List.take_of_length_le (by omega)] at hD1
    exact ⟨D, _, rfl, .inl ⟨.of hD1, fun t ht => q t _ (s1.trans (new_same ht)) upd_same⟩⟩
end
end K13
end
section
set_option maxRecDepth 100000
namespace K13
open PySem PySem.Spec PyProof.Rows L2
/-! ## promises of defs that are called where no repr is under way -/
structure FnG (P : Program) (w : World) (K : PySem.W.Frag) (mg : Str → Option Value) (base : Heap) (k : Nat) (f : Addr) (fd : FuncData) (ps : List Str) (sp : Sp) : Prop where
  len : ∀ vs H Q E, sp vs H Q E → vs.length = ps.length
  run : ∀ (A : Around) (outer : List Env) (s : Shared) (H : Hp) (args : Args) (us : List Value) (vs : List V) (Q : VK) (E : XK), A.guards = some [] → Room k A → Env0 P w K mg base A outer s H →
    BindsTo s fd args (ps.zip us) → Vals vs us → sp vs H Q E → codeAny (model P w) A (.call (.ref f) args) (CR CX0 outer P w H s Q E) s
section
variable {P : Program} {w : World} {K : PySem.W.Frag} {mg : Str → Option Value} {base : Heap}
theorem FnG.of {x qual : Str} {st : Stmt} {f : Addr} {fd : FuncData} {N ps : List Str} {k : Nat} {sp : Sp} (F : Fun K x qual st f fd) (S : FnScope N ps (defScope st)) (len : ∀ vs H Q E, sp vs H Q E → vs.length = ps.length)
    (hbody : ∀ (cdv : Value) (A : Around) (outer : List Env) (s : Shared) (H : Hp) (vs : List V) (Q : VK) (E : XK), A.guards = some [] → Room k (A.deeper (envOfC qual (defScope st) s.heap.objs.size f cdv)) → sp vs H Q E →
      ∃ t, PSs (cxOf CX0 P w K mg base N qual (defScope st) f cdv A outer s H E).nox (defBody st) t ∧ t { nx := fun _ G => Q .non G, rt := Q } (start N vs) H) : FnG P w K mg base (k + 1) f fd ps sp := by
  obtain ⟨oc, od, kV, doc, pm, an, cdv, ct, osl, rfl, lk, hcd⟩ := F.ex
  refine ⟨len, fun A outer s H args us vs Q E hgd hr e0 hb r hsp => ?_⟩
  have kx : K.In s.heap := e0.mod.kin.keeps fun b o e => (e0.bs b o e).1
  have lim : s.heap.NoLimit := e0.mod.nolimit.keeps fun b o e => (e0.bs b o e).1
  have kinds : ∀ y ∈ ps.zip us, (defScope st).names.lookup y.1 = some .local ∨ ((defScope st).names.lookup y.1 = some .cell ∧ ((cellsFrom (s.heap.objs.size + 1) (defScope st).names []).lookup y.1).isSome = true) := by
    rintro ⟨n, v⟩ hy
    rcases S.par n (List.of_mem_zip hy).1 with q | q
    · exact .inl q
    · exact .inr ⟨q, PySem.W.cellsFrom_some _ _ _ (.inl q)⟩
  refine codeAny_call_function hr.depth (kx _ _ lk) rfl S.co S.gen rfl (PySem.W.codeRec_of kx hcd) (hb _ _ _ _ ?_)
  refine wpAny_newFunctionEnv_cells S.kind kinds fun env he s1 x => ?_
  subst he
  obtain ⟨t, ht, hq⟩ := hbody cdv A outer s H vs Q E hgd (hr.deeper _) hsp
  refine ⟨lim.keeps x.toInCall.keep, codeAny_func ?_⟩
  refine wpAny_mono (ht.nox.run [] s1 (start N vs) H _ (inv_start S hr.hd e0 (len _ _ _ _ hsp) r x) hq) (fun fl s2 hs => ?_) fun _ _ hs => hs
  cases fl with
  | ret u =>
    obtain ⟨v, _, G, J, rv, q⟩ := hs
    exact ⟨v, G, J.os, J.bare, J.base, J.hok, rv, q⟩
  | next =>
    obtain ⟨_, G, J, q⟩ := hs
    exact ⟨V.non, G, J.os, J.bare, J.base, J.hok, rfl, q⟩
  | brk =>
    obtain ⟨_, _, _, q⟩ := hs
    exact q.elim
  | cont =>
    obtain ⟨_, _, _, q⟩ := hs
    exact q.elim
/-- such a def, called -/
theorem pe_callG {X : Cx} {k : Nat} {f : Addr} {fd : FuncData} {ps : List Str} {sp : Sp} {x : Str} {p pos : Pos} {e : Expr} {es : List Expr} {t : TA} (F : FnG X.prog X.w X.K X.mg X.base k f fd ps sp) (hgd : X.A.guards = some []) (hr : Room k X.A) (hg : Gl X x) (hm : X.mg x = some (.ref f))
    (hk : PySem.W.keepIn X.K (.ref f) = true) (hb : Binds X.K fd ps []) (ha : PA X (e :: es) t) (hdb : (x == ("__debug__" : Str)) = false := by decide)
    (he : starEach (e :: es) X.env = (false, eval e X.env) :: starEach es X.env := by rfl) (hpl : (backTo pos (starEach es X.env)).any (·.1) = false := by rfl) : PE X (.Call (.Name x p) (e :: es) [] pos) (tCall sp [] E0 t) := by
  refine ⟨fun pins s σ H Q I h => wpAny_Call_Name_kw (ld_glob I hg hm ?_ hdb)⟩
  refine PySem.W.callWith_K (h₀ := X.base) I.ok.mod.kin hk (thn (ha.run pos pins s σ H _ I h) fun us s1 ⟨vs, H1, I1, r, q⟩ => ⟨I1.kIn, ?_⟩) he hpl
  have q' : sp vs H1 Q E0 := by
    have q0 : sp (vs ++ []) H1 Q E0 := q
    rw [List.append_nil] at q0
    exact q0
  have hl : (us ++ ([] : List Value)).length = ps.length := by
    rw [List.append_nil, ← r.length]
    exact F.len _ _ _ _ q'
  have hbd := hb s1 us I1.kIn hl
  rw [List.append_nil] at hbd
  refine wpAny_call (codeAny_mono (F.run X.A X.stack s1 H1 ⟨us, []⟩ us vs Q E0 hgd hr I1.env0 hbd r q') fun res s2 hq => ?_)
  match res, hq with
  | .ok (.ret u), hq => exact I1.after hq
  | .ok .next, hq => exact False.elim hq
  | .ok .brk, hq => exact False.elim hq
  | .ok .cont, hq => exact False.elim hq
  | .error e, hq => exact False.elim hq
end
/-! ## repr of nested tuples -/
theorem call_reprD {X : Cx} (hgd : X.A.guards = some []) (hu : X.A.units + 64 < cLine) : CallR X (.builtin "repr") (fun xs H Q => ∃ a d, xs = [.ref a] ∧ Dp X.K H (.ref a) d ∧ d.showable = true ∧ d.hasDict = false ∧ d.depth ≤ 60 ∧ d.shown.length ≤ sizeLine ∧ Q (.str d.shown) H) := by
  intro pins s σ H xs us Q I r h
  obtain ⟨a, d, rfl, hd, hs, hn, hdp, hsz, q⟩ := h
  obtain ⟨u, rfl, ru⟩ := vals1 r
  obtain ⟨as, rd⟩ := Dp.reads I d (.ref a) u hd ru
  cases ru
  exact repr_of_reads' rd hs (PyData.noDict_hsm hn) hgd (by omega) (fun _ _ e => e) (fun h' u tk hk => ⟨.str _, H, I.kept hk, ⟨_, rfl⟩, q⟩) hsz
def resD (R O : List Int) : PyData := .tuple [.tuple (R.map .int), .tuple (O.map .int)]
theorem dp_ints {K : PySem.W.Frag} {H : Hp} : ∀ ns : List Int, DpAll K H (ns.map V.int) (ns.map PyData.int)
  | [] => .nil
  | n :: ns => .cons (.int n) (dp_ints ns)
theorem dp_res {K : PySem.W.Frag} {H : Hp} {t r o : Addr} {R O : List Int} (ht : H t = some (.tup [.ref r, .ref o])) (hr : H r = some (.tup (R.map V.int))) (ho : H o = some (.tup (O.map V.int))) : Dp K H (.ref t) (resD R O) :=
  .tup (.of ht) (.cons (.tup (.of hr) (dp_ints R)) (.cons (.tup (.of ho) (dp_ints O)) .nil))
theorem depth_ints : ∀ ns : List Int, PyData.depthAll (ns.map PyData.int) = 0
  | [] => by simp [PyData.depthAll]
  | n :: ns => by simp [PyData.depthAll, PyData.depth, depth_ints ns]
theorem nodict_ints : ∀ ns : List Int, PyData.hasDictAll (ns.map PyData.int) = false
  | [] => by simp [PyData.hasDictAll]
  | n :: ns => by simp [PyData.hasDictAll, PyData.hasDict, nodict_ints ns]
theorem sum_le {f : Int → Nat} {b : Nat} : ∀ (ns : List Int), (∀ n ∈ ns, f n ≤ b) → (ns.map f).sum ≤ b * ns.length
  | [], _ => by simp
  | n :: ns, h => by
    have h1 := h n (List.mem_cons_self ..)
    have h2 := sum_le ns fun m hm => h m (List.mem_cons_of_mem _ hm)
    rw [List.map_cons, List.sum_cons, List.length_cons, Nat.mul_succ]
    omega
theorem shown_ints {p : Int} (hp : p ≤ 10007) {ns : List Int} (h : InP p ns) : (PyData.tuple (ns.map .int)).shown.length ≤ 8 * ns.length + 3 := by
  show (tupleText (PyData.shownAll (ns.map .int))).length ≤ _
  have h1 := tupleText_len_le (PyData.shownAll (ns.map .int))
  rw [PyData.shownAll_ints] at h1 ⊢
  rw [List.map_map, List.length_map] at h1
  have h2 := sum_le (f := fun n => (Str.ofString (toString n)).length) (b := 6) ns fun n hn => by
    have hn' := h n hn
    show (Str.ofString (toString n)).length ≤ 6
    rw [PySem.ofString_length]
    have h9 : n.natAbs < 100000 := by omega
    exact int_text_length_le10 (k := 5) (by decide) h9
  have h3 : (List.map ((fun x : Str => x.length) ∘ fun n : Int => Str.ofString (toString n)) ns).sum ≤ 6 * ns.length := h2
  omega
theorem show_res {p : Int} (hp : p ≤ 10007) {R O : List Int} (hR : InP p R) (hO : InP p O) (lR : R.length ≤ 8) (lO : O.length ≤ 1000) :
    (resD R O).showable = true ∧ (resD R O).hasDict = false ∧ (resD R O).depth ≤ 60 ∧ (resD R O).shown.length ≤ sizeLine := by
  have small : ∀ {ns : List Int}, InP p ns → ∀ n ∈ ns, n.natAbs.log2 < 1920 := fun h n hn => by
    have h1 := h n hn
    have h2 : n.natAbs < 2 ^ 14 := by
      have : n.natAbs < 16384 := by omega
      exact this
    by_cases h0 : n.natAbs = 0
    · rw [h0]; decide
    · have := (Nat.log2_lt h0).mpr h2
      omega
  refine ⟨?_, ?_, ?_, ?_⟩
  · simp [resD, PyData.showable, PyData.showableAll, PyData.showableAll_ints R (small hR), PyData.showableAll_ints O (small hO)]
  · simp [resD, PyData.hasDict, PyData.hasDictAll, nodict_ints]
  · simp [resD, PyData.depth, PyData.depthAll, depth_ints]
  · have h1 := shown_ints hp hR
    have h2 := shown_ints hp hO
    have h3 := tupleText_len_le (PyData.shownAll [.tuple (R.map .int), .tuple (O.map .int)])
    show (tupleText (PyData.shownAll [.tuple (R.map .int), .tuple (O.map .int)])).length ≤ sizeLine
    rw [PyData.shownAll_cons, PyData.shownAll_cons, PyData.shownAll_nil] at h3 ⊢
    simp only [List.map_cons, List.map_nil, List.sum_cons, List.sum_nil, List.length_cons, List.length_nil] at h3
    rw [sizeLine_eq]
    omega
end K13
end
section
set_option maxRecDepth 100000
set_option maxHeartbeats 4000000
namespace K13
open PySem L2
/-- a pair of two tuples of ints -/
def Pr (H : Hp) (v : V) (c : List Int × List Int) : Prop := ∃ t r s : Addr, v = .ref t ∧ H t = some (.tup [.ref r, .ref s]) ∧ H r = some (.tup (c.1.map V.int)) ∧ H s = some (.tup (c.2.map V.int))
theorem Pr.keep {H H' : Hp} {v : V} {c : List Int × List Int} (h : Pr H v c) (k : Tups H H') : Pr H' v c := by
  obtain ⟨t, r, s, e, h1, h2, h3⟩ := h
  exact ⟨t, r, s, e, k _ _ h1, k _ _ h2, k _ _ h3⟩
def sel (i : Nat) (c : List Int × List Int) : List Int := if i = 0 then c.1 else c.2
theorem Pr.at {H : Hp} {v : V} {c : List Int × List Int} (h : Pr H v c) {i : Nat} (hi : i < 2) : ∃ t r s q : Addr, v = .ref t ∧ H t = some (.tup [.ref r, .ref s]) ∧ [V.ref r, V.ref s][i]? = some (.ref q) ∧ H q = some (.tup ((sel i c).map V.int)) := by
  obtain ⟨t, r, s, e, h1, h2, h3⟩ := h
  match i, hi with
  | 0, _ => exact ⟨t, r, s, r, e, h1, rfl, h2⟩
  | 1, _ => exact ⟨t, r, s, s, e, h1, rfl, h3⟩
def Tp (H : Hp) (v : V) (l : List Int) : Prop := ∃ t : Addr, v = .ref t ∧ H t = some (.tup (l.map V.int))
theorem Tp.keep {H H' : Hp} {v : V} {l : List Int} (h : Tp H v l) (k : Tups H H') : Tp H' v l := by
  obtain ⟨t, e, h⟩ := h
  exact ⟨t, e, k _ _ h⟩
theorem mem_flat {α : Type} {ls : List (List α)} {x : α} (h : x ∈ ls.flatten) : ∃ l, l ∈ ls ∧ x ∈ l := by
  simpa using h
theorem paired_mem {α β : Type} {F : α → β → Prop} : ∀ {l : List α} {m : List β} {y : β}, Paired F l m → y ∈ m → ∃ x, F x y
  | _, _, _, .nil, h => absurd h List.not_mem_nil
  | _, _, y, .cons r t, h => by
    rcases List.mem_cons.mp h with rfl | h
    · exact ⟨_, r⟩
    · exact paired_mem t h
theorem rep_wf {p : Int} {n : Nat} {H : Hp} : ∀ (d : Nat) (a : Addr) (l : List Pl), Rep p n H d a l → ∀ i ∈ l, i.wf p n
  | 0, _, _, h => False.elim h
  | d + 1, a, l, h => by
    obtain ⟨xs, ls, _, h2, rfl⟩ := h
    intro i hi
    obtain ⟨li, hl, hi⟩ := mem_flat hi
    obtain ⟨v, q⟩ := paired_mem h2 hl
    rcases q with ⟨j, rfl, _, _, _, hw⟩ | ⟨t, k, b, lb, _, _, hb, _, rfl⟩
    · rw [List.mem_singleton.mp hi]
      exact hw
    · obtain ⟨m, hm, hi⟩ := mem_flat hi
      rw [List.eq_of_mem_replicate hm] at hi
      exact rep_wf d b lb hb i hi
section
variable {P : Program} {w : World} {K : PySem.W.Frag} {mg : Str → Option Value} {base : Heap}
abbrev sRight : Stmt := topS 30
abbrev nRight : List Str := ["_law_urn_here", "_law_p", "_law_n", "_law_program", "_law_count", "_law_turn", "_law_a", "_law_some", "_law_told", "_law_mixed", "_law_due", "_law_item_here", "_law_k", "_law_one", "_law_part"]
theorem scRight : FnScope nRight ["_law_urn_here"] (defScope sRight) := ⟨rfl, rfl, rfl, by decide +kernel, rfl, by decide +kernel, by decide +kernel⟩
def spRight : Sp := fun vs H Q _ => ∃ u : Addr, vs = [.ref u] ∧ Urn H u ∧ ∀ H' : Hp, Ext u H H' → Q (.bl true) H'
/-! ### the readings of the comprehensions -/
abbrev teIx (K : PySem.W.Frag) (j : Nat) (k : Int) : TE := tOp (rIxT K) (tOp (rIxL K) (tVar j) (tC (.int k))) (tVar 14)
abbrev teMix (K : PySem.W.Frag) (j : Nat) : TE := tCall spComb [] E0 (tCons (tVar 1) (tCons (tVar 6) (tCons (teIx K j 0) (tCons (teIx K j 1) (tCons (teIx K j 2) tNil)))))
/-- [combined(p, a, S[0][part], S[1][part], S[2][part]) for part in range(2)] -/
theorem mix_reads {j : Nat} {p a : Int} {so : Addr} {v0 v1 v2 : V} {c0 c1 c2 : List Int × List Int} {s0 s2 s3 s4 s5 s7 s8 s9 s10 s11 s12 s13 : Option V} {H : Hp} {Q : VK} (hp0 : 0 < p) (hp1 : p ≤ 10007) (ha0 : 0 ≤ a) (hap : a < p)
    (hj : ∀ z : Option V, ([s0, some (.int p), s2, s3, s4, s5, some (.int a), s7, s8, s9, s10, s11, s12, s13, z] : St)[j]? = some (some (.ref so))) (hso : H so = some (.lst [v0, v1, v2])) (q0 : Pr H v0 c0) (q1 : Pr H v1 c1) (q2 : Pr H v2 c2)
    (l1 : ∀ i, i < 2 → (sel i c0).length = (sel i c1).length ∧ (sel i c0).length = (sel i c2).length ∧ (sel i c0).length ≤ 1000)
    (fin : ∀ (D m0 m1 : Addr) (H' : Hp), Same H H' → H' D = some (.lst [.ref m0, .ref m1]) → H' m0 = some (.tup ((comb p a c0.1 c1.1 c2.1).map V.int)) → H' m1 = some (.tup ((comb p a c0.2 c1.2 c2.2).map V.int)) → Q (.ref D) H') :
    tLc (iRng1 (tCons (tC (.int 2)) tNil)) (gName 14) tYes (teMix K j) [14] [s0, some (.int p), s2, s3, s4, s5, some (.int a), s7, s8, s9, s10, s11, s12, s13, none] H Q := by
  refine ⟨2, rfl, by decide, by decide, fun D hD => ?_⟩
  refine lc_range (lo := 0) (n := (2 : Int).toNat) (fun i H' => ∃ ms : List V, Same H H' ∧ H' D = some (.lst ms) ∧ Paired (Tp H') ms ([comb p a c0.1 c1.1 c2.1, comb p a c0.2 c1.2 c2.2].take i)) ⟨[], new_same hD, upd_same, .nil⟩ ?_ ?_
  · rintro i H1 hi ⟨ms, s1, hD1, pm⟩
    have hi2 : i < 2 := hi
    have k1 := Tups.of_same s1
    obtain ⟨t0, r0, w0, x0, rfl, a0, b0, d0⟩ := (q0.keep k1).at hi2
    obtain ⟨t1, r1, w1, x1, rfl, a1, b1, d1⟩ := (q1.keep k1).at hi2
    obtain ⟨t2, r2, w2, x2, rfl, a2, b2, d2⟩ := (q2.keep k1).at hi2
    have e0 : (0 : Int) + (i : Int) = (i : Int) := Int.zero_add _
    have hs1 := s1 _ _ hso
    have ll := l1 i hi2
    have hml := paired_len pm
    refine ⟨rfl, ?_⟩
    refine ⟨_, rfl, _, rfl, ?_⟩
    refine ⟨.ref so, hj _, so, _, 0, _, rfl, rfl, .of hs1, atI_nat (j := 0) rfl, .int (0 + (i : Int)), rfl, t0, _, i, .ref x0, rfl, by rw [e0], .of a0, atI_nat b0, ?_⟩
    refine ⟨.ref so, hj _, so, _, 1, _, rfl, rfl, .of hs1, atI_nat (j := 1) rfl, .int (0 + (i : Int)), rfl, t1, _, i, .ref x1, rfl, by rw [e0], .of a1, atI_nat b1, ?_⟩
    refine ⟨.ref so, hj _, so, _, 2, _, rfl, rfl, .of hs1, atI_nat (j := 2) rfl, .int (0 + (i : Int)), rfl, t2, _, i, .ref x2, rfl, by rw [e0], .of a2, atI_nat b2, ?_⟩
    refine ⟨p, a, x0, x1, x2, _, _, _, _, rfl, hp0, hp1, ha0, hap, d0, d1, d2, rfl, ll.1.symm, ll.2.1.symm, ll.2.2, fun t H2 s2 ht => ?_⟩
    refine ⟨ms, s2 _ _ hD1, small1000 ?_, ms ++ [.ref t], same_put (s1.trans s2) hD, upd_same, ?_⟩
    · rw [hml, List.length_take]
      have : ([comb p a c0.1 c1.1 c2.1, comb p a c0.2 c1.2 c2.2] : List (List Int)).length = 2 := rfl
      omega
    · have k2 : Tups H1 (L2.upd H2 D (.lst (ms ++ [.ref t]))) := (Tups.of_same s2).trans (tups_put (s2 _ _ hD1))
      have ht' : (L2.upd H2 D (.lst (ms ++ [.ref t]))) t = some (.tup ((comb p a (sel i c0) (sel i c1) (sel i c2)).map V.int)) := tups_put (s2 _ _ hD1) _ _ ht
      have hstep : ([comb p a c0.1 c1.1 c2.1, comb p a c0.2 c1.2 c2.2] : List (List Int)).take (i + 1) = [comb p a c0.1 c1.1 c2.1, comb p a c0.2 c1.2 c2.2].take i ++ [comb p a (sel i c0) (sel i c1) (sel i c2)] := by
        match i, hi2 with
        | 0, _ => rfl
        | 1, _ => rfl
      rw [hstep]
      exact paired_app (paired_imp pm fun v l h => h.keep k2) (.cons ⟨t, rfl, ht'⟩ .nil)
  · rintro H1 ⟨ms, s1, hD1, pm⟩
    have pm2 : Paired (Tp H1) ms [comb p a c0.1 c1.1 c2.1, comb p a c0.2 c1.2 c2.2] := pm
    cases pm2 with
    | cons g0 pm2 =>
      cases pm2 with
      | cons g1 pm2 =>
        cases pm2
        obtain ⟨m0, rfl, h0⟩ := g0
        obtain ⟨m1, rfl, h1⟩ := g1
        exact fin D m0 m1 H1 s1 hD1 h0 h1
/-! ### how often it reads -/
def isRead : Pl → Bool
  | .read _ => true
  | _ => false
theorem reads_app : ∀ l m : List Pl, reads (l ++ m) = reads l + reads m
  | [], m => by simp [reads]
  | i :: l, m => by
    rw [List.cons_append, reads, reads, reads_app l m]
    omega
theorem reads_le : ∀ l : List Pl, reads l ≤ l.length
  | [] => Nat.le_refl _
  | i :: l => by
    have h := reads_le l
    have : readN i ≤ 1 := by cases i <;> simp [readN]
    rw [reads, List.length_cons]
    omega
theorem word_read (i : Pl) : decide (V.str i.word = V.str "read") = isRead i := by
  cases i with
  | set x c => show decide (V.str "set" = V.str "read") = false; decide +kernel
  | copy x c => show decide (V.str "copy" = V.str "read") = false; decide +kernel
  | add x y c => show decide (V.str "add" = V.str "read") = false; decide +kernel
  | scale x c => show decide (V.str "scale" = V.str "read") = false; decide +kernel
  | swap x c => show decide (V.str "swap" = V.str "read") = false; decide +kernel
  | read x => show decide (V.str "read" = V.str "read") = true; decide +kernel
  | write x => show decide (V.str "write" = V.str "read") = false; decide +kernel
theorem readN_is (i : Pl) : readN i = if isRead i = true then 1 else 0 := by cases i <;> rfl
/-! ### right -/
theorem step_g {i : Nat} {v : V} {σ : St} {H : Hp} {Q : St → Hp → Prop} (h : Q (σ.set i (some v)) H) : gName i v σ H Q := h
theorem step_s {t u : TS} {D : Ends} {σ : St} {H : Hp} (h : t { D with nx := u D } σ H) : tSeq t u D σ H := h
theorem step_a {te : TE} {g : TG} {D : Ends} {σ : St} {H : Hp} (h : te σ H fun x H1 => g x σ H1 D.nx) : tAsg te g D σ H := h
theorem ok_right {f fT fP fB fW fX fU fR fC : Addr} {fd fdT fdP fdB fdW fdX fdU fdR fdC : FuncData} (T : Txt mg) (F : Fun K "_law_right" "_law_right" sRight f fd)
    (DT : DefAt K mg "_law_take" sTake ["_law_urn_here", "_law_below"] fT fdT) (GT : FnOk P w K mg base CX0 1 fT fdT ["_law_urn_here", "_law_below"] spTake)
    (DP : DefAt K mg "_law_prime" sPrime ["_law_urn_here"] fP fdP) (GP : FnOk P w K mg base CX0 3 fP fdP ["_law_urn_here"] spPrime)
    (DB : DefAt K mg "_law_body" sBody pBody fB fdB) (GB : FnOk P w K mg base CX0 8 fB fdB pBody (spBody 4))
    (DW : DefAt K mg "_law_words" sWords [] fW fdW) (GW : FnOk P w K mg base CX0 1 fW fdW [] spWords)
    (DX : DefAt K mg "_law_executed" sLexec ["_law_program"] fX fdX) (GX : FnOk P w K mg base CX0 5 fX fdX ["_law_program"] (spExec 5))
    (DU : DefAt K mg "_law_tuple" sTuple pTuple fU fdU) (GU : FnOk P w K mg base CX0 3 fU fdU pTuple spTuple)
    (DR : DefAt K mg "run" sRun pRun fR fdR) (GR : FnOk P w K mg base CX0 7 fR fdR pRun (spRun 5))
    (DC : DefAt K mg "_law_combined" sComb pComb fC fdC) (GC : FnOk P w K mg base CX0 1 fC fdC pComb spComb) : FnG P w K mg base 9 f fd ["_law_urn_here"] spRight := by
  refine FnG.of F scRight (fun vs H Q E h => ?_) (fun cdv A outer s H vs Q E hgd hr h => ?_)
  · obtain ⟨u, rfl, _⟩ := h
    rfl
  obtain ⟨u, rfl, hu, q⟩ := h
  have hr1 : Room 1 _ := hr.mono (by decide)
  have hr3 : Room 3 _ := hr.mono (by decide)
  have hr5 : Room 5 _ := hr.mono (by decide)
  have hr7 : Room 7 _ := hr.mono (by decide)
  have hr8 : Room 8 _ := hr
  refine ⟨_, pss_cons (ps_asg (pe_tup (pa_cons (pe_call GP hr3 rfl DP.m DP.fn.kp DP.b .nil pass0 (pa_cons (pv 0) pa_nil)) (pa_cons (pe_op op_add pe_int (pe_call GT hr1 rfl DT.m DT.fn.kp DT.b .nil pass0 (pa_cons (pv 0) (pa_cons pe_int pa_nil)))) pa_nil)))
      (pg_tup rfl (pgs_cons (pg_name (i := 1) scRight.nd rfl (.inr rfl)) (pgs_cons (pg_name (i := 2) scRight.nd rfl (.inr rfl)) pgs_nil))))
    (pss_cons (ps_set (i := 3) scRight.nd rfl (.inr rfl) (pe_call GB hr8 rfl DB.m DB.fn.kp DB.b .nil pass0 (pa_cons (pv 0) (pa_cons (pv 1) (pa_cons (pv 2) (pa_cons (pe_call0 GW hr1 rfl DW.m DW.fn.kp DW.b .nil pass0) (pa_cons pe_int (pa_cons pe_int
      (pa_cons (pe_lst (pa_cons pe_int (pa_cons pe_int (pa_cons pe_int (pa_cons pe_int (pa_cons pe_int pa_nil)))))) pa_nil)))))))))
    (pss_cons (ps_set (i := 4) scRight.nd rfl (.inr rfl) (pe_callB call_len_seq (by rfl) T.len PySem.boot_len (pa_cons (pe_lc (own := [("_law_item_here", 11)]) (g := gName 11) (tt := tTest (tOp rEq (tOp (rIxT K) (tVar 11) (tC (.int 0))) (tC (.str "read")))) (te := tVar 11) rfl scRight.nd
        (pi_list (pe_call GX hr5 rfl DX.m DX.fn.kp DX.b .nil pass0 (pa_cons (pv 3) pa_nil))) (blkOk_by (N := nRight) (sc := defScope sRight) (by decide +kernel)) (fun _ _ _ _ _ => pg_name (i := 11) scRight.nd rfl (.inl rfl))
        (fun _ _ _ _ _ => pts_one (pt_cmpR op_eq (pe_ix ix_tup (pv 11) pe_int (fun _ _ => rfl)) pe_str (nomark _))) (fun _ _ _ _ _ => pv 11)) pa_nil)))
    (pss_cons (ps_for PassesOwn.never rfl (pi_range1 rfl T.range (pa_cons pe_int pa_nil)) (pg_name (i := 5) scRight.nd rfl (.inl rfl))
      (pss_cons (ps_asg (pe_tup (pa_cons (pe_call GT hr1 rfl DT.m DT.fn.kp DT.b .nil pass0 (pa_cons (pv 0) (pa_cons (pv 1) pa_nil))) (pa_cons (pe_lc (own := [("_law_k", 12)]) (g := gName 12) (tt := tYes) (te := tTup (tCons (tCall spTuple [] E0 (tCons (tVar 0) (tCons (tVar 1) (tCons (tVar 2) tNil)))) (tCons (tCall spTuple [] E0 (tCons (tVar 0) (tCons (tVar 1) (tCons (tVar 4) tNil)))) tNil))) rfl scRight.nd
            (pi_range1 rfl T.range (pa_cons pe_int pa_nil)) (blkOk_by (N := nRight) (sc := defScope sRight) (by decide +kernel)) (fun _ _ _ _ _ => pg_name (i := 12) scRight.nd rfl (.inl rfl)) (fun _ _ _ _ _ => pts_nil)
            (fun _ _ _ _ _ => pe_tup (pa_cons (pe_call GU hr3 rfl DU.m DU.fn.kp DU.b .nil pass0 (pa_cons (pv 0) (pa_cons (pv 1) (pa_cons (pv 2) pa_nil)))) (pa_cons (pe_call GU hr3 rfl DU.m DU.fn.kp DU.b .nil pass0 (pa_cons (pv 0) (pa_cons (pv 1) (pa_cons (pv 4) pa_nil)))) pa_nil)))) pa_nil)))
          (pg_tup rfl (pgs_cons (pg_name (i := 6) scRight.nd rfl (.inr rfl)) (pgs_cons (pg_name (i := 7) scRight.nd rfl (.inr rfl)) pgs_nil))))
      (pss_cons (ps_set (i := 8) scRight.nd rfl (.inr rfl) (pe_lc (own := [("_law_one", 13)]) (g := gName 13) (tt := tYes) (te := tCall (spRun 5) [] E0 (tCons (tVar 1) (tCons (tVar 3) (tCons (tOp (rIxT K) (tVar 13) (tC (.int 0))) (tCons (tOp (rIxT K) (tVar 13) (tC (.int 1))) tNil))))) rfl scRight.nd
          (pi_list (pv 7)) (blkOk_by (N := nRight) (sc := defScope sRight) (by decide +kernel)) (fun _ _ _ _ _ => pg_name (i := 13) scRight.nd rfl (.inl rfl)) (fun _ _ _ _ _ => pts_nil)
          (fun _ _ _ _ _ => pe_call GR hr7 rfl DR.m DR.fn.kp DR.b .nil pass0 (pa_cons (pv 1) (pa_cons (pv 3) (pa_cons (pe_ix ix_tup (pv 13) pe_int (fun _ _ => rfl)) (pa_cons (pe_ix ix_tup (pv 13) pe_int (fun _ _ => rfl)) pa_nil)))))))
      (pss_cons (ps_setLc (i := 9) (own := [("_law_part", 14)]) (g := gName 14) (tt := tYes) (te := teMix K 7) rfl scRight.nd rfl rfl (sw_true rfl rfl rfl (by decide +kernel))
          (pi_range1 rfl T.range (pa_cons pe_int pa_nil)) (blkOk_by (N := nRight) (sc := defScope sRight) (by decide +kernel)) (fun _ _ _ _ _ => pg_name (i := 14) scRight.nd rfl (.inl rfl)) (fun _ _ _ _ _ => pts_nil)
          (fun _ _ _ _ _ => pe_call GC hr1 rfl DC.m DC.fn.kp DC.b .nil pass0 (pa_cons (pv 1) (pa_cons (pv 6) (pa_cons (pe_ix ix_tup (pe_ix ix_list (pv 7) pe_int (fun _ _ => rfl)) (pv 14) (fun _ _ => rfl))
            (pa_cons (pe_ix ix_tup (pe_ix ix_list (pv 7) pe_int (fun _ _ => rfl)) (pv 14) (fun _ _ => rfl)) (pa_cons (pe_ix ix_tup (pe_ix ix_list (pv 7) pe_int (fun _ _ => rfl)) (pv 14) (fun _ _ => rfl)) pa_nil)))))))
      (pss_cons (ps_setLc (i := 10) (own := [("_law_part", 14)]) (g := gName 14) (tt := tYes) (te := teMix K 8) rfl scRight.nd rfl rfl (sw_true rfl rfl rfl (by decide +kernel))
          (pi_range1 rfl T.range (pa_cons pe_int pa_nil)) (blkOk_by (N := nRight) (sc := defScope sRight) (by decide +kernel)) (fun _ _ _ _ _ => pg_name (i := 14) scRight.nd rfl (.inl rfl)) (fun _ _ _ _ _ => pts_nil)
          (fun _ _ _ _ _ => pe_call GC hr1 rfl DC.m DC.fn.kp DC.b .nil pass0 (pa_cons (pv 1) (pa_cons (pv 6) (pa_cons (pe_ix ix_tup (pe_ix ix_list (pv 8) pe_int (fun _ _ => rfl)) (pv 14) (fun _ _ => rfl))
            (pa_cons (pe_ix ix_tup (pe_ix ix_list (pv 8) pe_int (fun _ _ => rfl)) (pv 14) (fun _ _ => rfl)) (pa_cons (pe_ix ix_tup (pe_ix ix_list (pv 8) pe_int (fun _ _ => rfl)) (pv 14) (fun _ _ => rfl)) pa_nil)))))))
      (pss_one (ps_if (pt_cmpR op_ne (pe_callB (call_reprD hgd hr.units) (by rfl) T.repr PyProof.Rows.boot_repr (pa_cons (pe_call GR hr7 rfl DR.m DR.fn.kp DR.b .nil pass0 (pa_cons (pv 1) (pa_cons (pv 3) (pa_cons (pe_ix ix_list (pv 9) pe_int (fun _ _ => rfl)) (pa_cons (pe_ix ix_list (pv 9) pe_int (fun _ _ => rfl)) pa_nil))))) pa_nil))
          (pe_callB (call_reprD hgd hr.units) (by rfl) T.repr PyProof.Rows.boot_repr (pa_cons (pe_callTy call_tuple_of (by rfl) T.tuple (by decide +kernel) (pa_cons (pv 10) pa_nil)) pa_nil)) (nomark _)) (pss_one (ps_ret pe_bl)) pss_nil)))))))
    (pss_one (ps_ret pe_bl))))), ?_⟩
  -- p and n
  refine ⟨.ref u, rfl, u, rfl, hu, fun p H1 e1 hp1 hp2 => ?_⟩
  refine ⟨.ref u, rfl, u, 8, rfl, e1.urn, by decide, by decide, fun r H2 e2 hr0' hr8' => ?_⟩
  obtain ⟨m, rfl⟩ : ∃ m : Nat, r = m := ⟨r.toNat, by omega⟩
  have en : (1 : Int) + (m : Int) = ((m + 1 : Nat) : Int) := by omega
  refine ⟨1, m, rfl, rfl, (by show 2 ≤ sizeLine; decide), fun tt0 htt0 => ?_⟩
  have e3 : Ext u H (L2.upd H2 tt0 (.tup [.int p, .int (1 + (m : Int))])) := e1.trans (e2.trans (Ext.new e2.urn htt0))
  refine ⟨tt0, _, rfl, .of upd_same, rfl, .int p, [.int ((m + 1 : Nat) : Int)], (by rw [← en]), .int ((m + 1 : Nat) : Int), [], rfl, rfl, ?_⟩
  obtain ⟨n, hn⟩ : ∃ n : Nat, n = m + 1 := ⟨_, rfl⟩
  rw [← hn]
  generalize L2.upd H2 tt0 (.tup [.int p, .int (1 + (m : Int))]) = H3 at e3 ⊢
  -- the program
  refine ⟨.ref u, rfl, .int p, rfl, .int n, rfl, rfl, fun lw hlw => ?_⟩
  have e4 : Ext u H (L2.upd H3 lw (.lst wordsV)) := e3.trans (Ext.new e3.urn hlw)
  refine ⟨(by show 5 ≤ sizeLine; decide), fun lb hlb => ?_⟩
  have e5 : Ext u H (L2.upd (L2.upd H3 lw (.lst wordsV)) lb (.lst roundsV)) := e4.trans (Ext.new e4.urn hlb)
  have hlw' : (L2.upd (L2.upd H3 lw (.lst wordsV)) lb (.lst roundsV)) lw = some (.lst wordsV) := new_same hlb _ _ upd_same
  refine ⟨u, lw, lb, p, n, 6, rfl, e5.urn, hp1, hp2, by omega, by omega, (e3.urn.ne hlw).symm, hlw', (e4.urn.ne hlb).symm, upd_same, by decide, fun tp pl H5 e6 hrep hlen => ?_⟩
  have e7 : Ext u H H5 := e5.trans e6
  have hp450 : pl.length ≤ 1000 := Nat.le_trans hlen (by decide +kernel)
  have hwf : ∀ i ∈ pl, i.wf p n := rep_wf 5 tp pl hrep
  -- the count
  refine ⟨.ref tp, rfl, tp, p, n, pl, rfl, hrep, hp450, fun rx vx H6 s6 hrx0 hrx pvx => ⟨rx, rfl, ⟨_, .of hrx⟩, fun D hD => ?_⟩⟩
  have hvl := paired_len pvx
  refine lc_list (K := K) (a := rx) (xs := vx) (fun i H' => ∃ acc : List V, Same H6 H' ∧ H' D = some (.lst acc) ∧ acc.length = reads (pl.take i)) ⟨[], new_same hD, upd_same, rfl⟩ (fun i H' _ h => ?_) ?_ ?_
  · obtain ⟨_, s7, _⟩ := h
    exact .of (s7 _ _ hrx)
  · rintro i x H7 hx ⟨acc, s7, hD7, hacc⟩
    obtain ⟨pi, hpi, t, rfl, ht, hw⟩ := paired_get pvx hx
    have hi : i < vx.length := (List.getElem?_eq_some_iff.mp hx).1
    have hstep : reads (pl.take (i + 1)) = reads (pl.take i) + readN pi := by
      rw [List.take_add_one, hpi, reads_app]
      simp [reads]
    have hle := reads_le (pl.take i)
    rw [List.length_take] at hle
    refine ⟨rfl, .ref t, rfl, t, _, 0, _, rfl, rfl, .of (s7 _ _ ht), atI_nat (j := 0) pi.at0, rfl, _, rfl, iteB (isRead pi) (word_read pi) ?_⟩
    rw [readN_is] at hstep
    cases hb : isRead pi with
    | true =>
      rw [hb] at hstep
      refine iteT ⟨.ref t, rfl, acc, hD7, small1000 (by omega), acc ++ [.ref t], same_put s7 hD, upd_same, ?_⟩
      rw [List.length_append, hacc, hstep]
      rfl
    | false =>
      rw [hb] at hstep
      refine iteF ⟨acc, s7, hD7, ?_⟩
      rw [hacc, hstep]
      rfl
  rintro H7 ⟨acc, s7, hD7, hacc⟩
  rw [List.take_of_length_le (by omega)] at hacc
  refine ⟨D, acc, rfl, .inl (.of hD7), ?_⟩
  rw [hacc]
  have e8 : Ext u H H7 := e7.trans (Ext.same e7.urn (s6.trans s7))
  have hrep7 : Rep p n H7 5 tp pl := Rep.keep (Tups.of_same (s6.trans s7)) 5 tp pl hrep
  have hrd : reads pl ≤ 1000 := Nat.le_trans (reads_le pl) hp450
  clear hrx hrx0 pvx hvl hD7 hacc hD e1 e2 e3 e4 e5 e6 e7 hrep s6 s7
  -- the loop
  refine ⟨3, rfl, by decide, by decide, ?_⟩
  refine for_range (lo := 0) (n := (3 : Int).toNat) (fun i σ H' => ∃ v5 v6 v7 v8 v9 v10 : Option V, σ = [some (.ref u), some (.int p), some (.int n), some (.ref tp), some (.int (reads pl : Nat)), v5, v6, v7, v8, v9, v10, none, none, none, none] ∧ Ext u H H' ∧ Rep p n H' 5 tp pl)
    ⟨none, none, none, none, none, none, rfl, e8, hrep7⟩ ?_ ?_
  · rintro i σ Ha hi ⟨v5, v6, v7, v8, v9, v10, rfl, ea, hrepa⟩
    -- a
    refine ⟨.ref u, rfl, .int p, rfl, u, p, rfl, ea.urn, by omega, by omega, fun a Hb eb ha0 hap => ?_⟩
    -- some
    refine ⟨3, rfl, by decide, by decide, fun S hS => ?_⟩
    have hSu : S ≠ u := (eb.urn.ne hS).symm
    refine lc_range (lo := 0) (n := (3 : Int).toNat) (fun j H' => ∃ (vs : List V) (cs : List (List Int × List Int)), Ext u Hb H' ∧ H' S = some (.lst vs) ∧ vs.length = j ∧
      Paired (fun v c => Pr H' v c ∧ c.1.length = n ∧ c.2.length = reads pl ∧ InP p c.1 ∧ InP p c.2) vs cs) ⟨[], [], Ext.new eb.urn hS, upd_same, rfl, .nil⟩ ?_ ?_
    · rintro j Hc hj ⟨vs, cs, ec, hSc, hvs, pc⟩
      have hj3 : j < 3 := hj
      refine ⟨rfl, ?_⟩
      refine ⟨.ref u, rfl, .int p, rfl, .int n, rfl, u, p, n, rfl, ec.urn, hp1, hp2, by omega, fun t1 ns Hd ed ht1 hl1 hin1 => ?_⟩
      refine ⟨.ref u, rfl, .int p, rfl, .int (reads pl : Nat), rfl, u, p, reads pl, rfl, ed.urn, hp1, hp2, hrd, fun t2 ms He ee ht2 hl2 hin2 => ?_⟩
      refine ⟨(by show 2 ≤ sizeLine; decide), fun tt htt => ?_⟩
      have ef : Ext u Hc (L2.upd He tt (.tup [.ref t1, .ref t2])) := ed.trans (ee.trans (Ext.new ee.urn htt))
      have hSf := ef.keep _ _ hSu hSc
      have k1 : Tups Hc (L2.upd (L2.upd He tt (.tup [.ref t1, .ref t2])) S (.lst (vs ++ [.ref tt]))) := (ef.tups ec.urn).trans (tups_put hSf)
      have k2 : Tups He (L2.upd (L2.upd He tt (.tup [.ref t1, .ref t2])) S (.lst (vs ++ [.ref tt]))) := (tups_new htt).trans (tups_put hSf)
      refine ⟨vs, hSf, small1000 (by omega), vs ++ [.ref tt], cs ++ [(ns, ms)], (ec.trans ef).put hS hSu, upd_same, (by rw [List.length_append, hvs]; rfl), ?_⟩
      refine paired_app (paired_imp pc fun v c h => ⟨h.1.keep k1, h.2⟩) (.cons ⟨⟨tt, t1, t2, rfl, tups_put hSf _ _ upd_same, k2 _ _ (ee.tup ed.urn ht1), k2 _ _ ht2⟩, hl1, hl2, hin1, hin2⟩ .nil)
    rintro Hc ⟨vs, cs, ec, hSc, hvs, pc⟩
    have hvs3 : vs.length = 3 := hvs
    obtain ⟨v0, v1, v2, rfl⟩ : ∃ v0 v1 v2, vs = [v0, v1, v2] := by
      match vs, hvs3 with
      | [x, y, z], _ => exact ⟨x, y, z, rfl⟩
    have hcs3 : cs.length = 3 := by rw [← paired_len pc]; rfl
    obtain ⟨c0, c1, c2, rfl⟩ : ∃ c0 c1 c2, cs = [c0, c1, c2] := by
      match cs, hcs3 with
      | [x, y, z], _ => exact ⟨x, y, z, rfl⟩
    obtain ⟨⟨q0, l0, m0, in0, jn0⟩, ⟨q1, l1, m1, in1, jn1⟩, ⟨q2, l2, m2, in2, jn2⟩⟩ : (Pr Hc v0 c0 ∧ c0.1.length = n ∧ c0.2.length = reads pl ∧ InP p c0.1 ∧ InP p c0.2) ∧ (Pr Hc v1 c1 ∧ c1.1.length = n ∧ c1.2.length = reads pl ∧ InP p c1.1 ∧ InP p c1.2) ∧
        (Pr Hc v2 c2 ∧ c2.1.length = n ∧ c2.2.length = reads pl ∧ InP p c2.1 ∧ InP p c2.2) := by
      cases pc with
      | cons z0 pc =>
        cases pc with
        | cons z1 pc =>
          cases pc with
          | cons z2 pc => exact ⟨z0, z1, z2⟩
    -- a, some stored
    refine ⟨(by show 2 ≤ sizeLine; decide), fun tt htt => ⟨tt, _, rfl, .of upd_same, rfl, _, _, rfl, _, _, rfl, rfl, ?_⟩⟩
    have ed : Ext u Ha (L2.upd Hc tt (.tup [.int a, .ref S])) := eb.trans (ec.trans (Ext.new ec.urn htt))
    have kd : Tups Hc (L2.upd Hc tt (.tup [.int a, .ref S])) := tups_new htt
    have hSd := new_same htt (o := .tup [.int a, .ref S]) _ _ hSc
    replace q0 := q0.keep kd
    replace q1 := q1.keep kd
    replace q2 := q2.keep kd
    generalize L2.upd Hc tt (.tup [.int a, .ref S]) = Hd at ed hSd q0 q1 q2
    have hrepd : Rep p n Hd 5 tp pl := Rep.keep (ed.tups ea.urn) 5 tp pl hrepa
    -- told
    refine ⟨.ref S, rfl, S, rfl, ⟨_, .of hSd⟩, fun W hW => ?_⟩
    have pq : Paired (fun v c => Pr Hd v c ∧ c.1.length = n ∧ c.2.length = reads pl ∧ InP p c.1 ∧ InP p c.2) [v0, v1, v2] [c0, c1, c2] := .cons ⟨q0, l0, m0, in0, jn0⟩ (.cons ⟨q1, l1, m1, in1, jn1⟩ (.cons ⟨q2, l2, m2, in2, jn2⟩ .nil))
    refine lc_list (K := K) (a := S) (xs := [v0, v1, v2]) (fun j H' => ∃ ws : List V, Same Hd H' ∧ H' W = some (.lst ws) ∧ Paired (Pr H') ws (([c0, c1, c2].take j).map fun c => runL p pl c.1 c.2)) ⟨[], new_same hW, upd_same, .nil⟩ (fun j H' _ h => ?_) ?_ ?_
    · obtain ⟨_, s, _⟩ := h
      exact .of (s _ _ hSd)
    · rintro j x He hx ⟨ws, se, hWe, pw⟩
      have hj : j < 3 := (List.getElem?_eq_some_iff.mp hx).1
      obtain ⟨c, hc, ⟨t, r1, r2, rfl, g1, g2, g3⟩, lc1, lc2, inc1, inc2⟩ := paired_get pq hx
      have hwl := paired_len pw
      rw [List.length_map, List.length_take] at hwl
      refine ⟨rfl, ?_⟩
      refine ⟨.int p, rfl, .ref tp, rfl, .ref t, rfl, t, _, 0, .ref r1, rfl, rfl, .of (se _ _ g1), atI_nat (j := 0) rfl, .ref t, rfl, t, _, 1, .ref r2, rfl, rfl, .of (se _ _ g1), atI_nat (j := 1) rfl, ?_⟩
      refine ⟨p, tp, r1, r2, n, pl, c.1, c.2, rfl, by omega, hp2, by omega, Rep.keep (Tups.of_same se) 5 tp pl hrepd, hp450, se _ _ g2, se _ _ g3, lc1, lc2, inc1, inc2, fun t' t1 t2 Hf sf gt g1' g2' => ?_⟩
      have hWf := sf _ _ hWe
      refine ⟨ws, hWf, small1000 (by omega), ws ++ [.ref t'], same_put (se.trans sf) hW, upd_same, ?_⟩
      rw [List.take_add_one, hc, List.map_append]
      exact paired_app (paired_imp pw fun v c h => h.keep ((Tups.of_same sf).trans (tups_put hWf))) (.cons ⟨t', t1, t2, rfl, tups_put hWf _ _ gt, tups_put hWf _ _ g1', tups_put hWf _ _ g2'⟩ .nil)
    rintro He ⟨ws, se, hWe, pw⟩
    have pw3 : Paired (Pr He) ws [runL p pl c0.1 c0.2, runL p pl c1.1 c1.2, runL p pl c2.1 c2.2] := pw
    obtain ⟨w0, w1, w2, rfl⟩ : ∃ w0 w1 w2, ws = [w0, w1, w2] := by
      match ws, paired_len pw3 with
      | [x, y, z], _ => exact ⟨x, y, z, rfl⟩
    obtain ⟨d0, d1, d2⟩ : Pr He w0 (runL p pl c0.1 c0.2) ∧ Pr He w1 (runL p pl c1.1 c1.2) ∧ Pr He w2 (runL p pl c2.1 c2.2) := by
      cases pw3 with
      | cons z0 pc =>
        cases pc with
        | cons z1 pc =>
          cases pc with
          | cons z2 pc => exact ⟨z0, z1, z2⟩
    have ke := Tups.of_same se
    have o0 := run_outs (p := p) pl c0.1 c0.2
    -- mixed
    refine step_g ?_
    dsimp only
    refine step_s ?_
    refine step_a ?_
    show tLc (iRng1 (tCons (tC (.int 2)) tNil)) (gName 14) tYes (teMix K 7) [14] [some (.ref u), some (.int p), some (.int n), some (.ref tp), some (.int (reads pl : Nat)), some (.int (0 + (i : Int))), some (.int a), some (.ref S), some (.ref W), v9, v10, none, none, none, none] He _
    refine mix_reads (K := K) (j := 7) (so := S) (by omega) hp2 ha0 hap (fun z => rfl) (se _ _ hSd) (q0.keep ke) (q1.keep ke) (q2.keep ke) ?_ fun M m0' m1' Hf sf hM hm0 hm1 => ?_
    · intro z hz
      match z, hz with
      | 0, _ => exact ⟨by show c0.1.length = c1.1.length; omega, by show c0.1.length = c2.1.length; omega, by show c0.1.length ≤ 1000; omega⟩
      | 1, _ => exact ⟨by show c0.2.length = c1.2.length; omega, by show c0.2.length = c2.2.length; omega, by show c0.2.length ≤ 1000; omega⟩
    -- due
    have kf := Tups.of_same sf
    refine step_g ?_
    dsimp only
    refine step_s ?_
    refine step_a ?_
    show tLc (iRng1 (tCons (tC (.int 2)) tNil)) (gName 14) tYes (teMix K 8) [14] [some (.ref u), some (.int p), some (.int n), some (.ref tp), some (.int (reads pl : Nat)), some (.int (0 + (i : Int))), some (.int a), some (.ref S), some (.ref W), some (.ref M), v10, none, none, none, none] Hf _
    refine mix_reads (K := K) (j := 8) (so := W) (by omega) hp2 ha0 hap (fun z => rfl) (sf _ _ hWe) (d0.keep kf) (d1.keep kf) (d2.keep kf) ?_ fun Y y0 y1 Hg sg hY hy0 hy1 => ?_
    · intro z hz
      match z, hz with
      | 0, _ =>
        refine ⟨?_, ?_, ?_⟩
        · show (runL p pl c0.1 c0.2).1.length = (runL p pl c1.1 c1.2).1.length
          rw [run_len, run_len]; omega
        · show (runL p pl c0.1 c0.2).1.length = (runL p pl c2.1 c2.2).1.length
          rw [run_len, run_len]; omega
        · show (runL p pl c0.1 c0.2).1.length ≤ 1000
          rw [run_len]; omega
      | 1, _ =>
        refine ⟨?_, ?_, ?_⟩
        · exact run_outs_eq pl _ _ _ _
        · exact run_outs_eq pl _ _ _ _
        · show (runL p pl c0.1 c0.2).2.length ≤ 1000
          omega
    have hM' := sg _ _ hM
    have hrepg : Rep p n Hg 5 tp pl := Rep.keep (Tups.of_same (se.trans (sf.trans sg))) 5 tp pl hrepd
    have cl := comb_len p a l0 l1 l2
    have cm := comb_len p a m0 m1 m2
    have key := run_comb (a := a) pl hwf c0.1 c1.1 c2.1 c0.2 c1.2 c2.2 l0 l1 l2 m0 m1 m2
    have i1 := comb_in a (show 0 < p by omega) c0.1 c1.1 c2.1
    have i2 := comb_in a (show 0 < p by omega) c0.2 c1.2 c2.2
    -- the first repr
    refine ⟨.int p, rfl, .ref tp, rfl, .ref M, rfl, M, _, 0, .ref m0', rfl, rfl, .of hM', atI_nat (j := 0) rfl, .ref M, rfl, M, _, 1, .ref m1', rfl, rfl, .of hM', atI_nat (j := 1) rfl, ?_⟩
    refine ⟨p, tp, m0', m1', n, pl, _, _, rfl, by omega, hp2, by omega, hrepg, hp450, sg _ _ hm0, sg _ _ hm1, cl, cm, i1, i2, fun t t1 t2 Hh sh gt g1 g2 => ?_⟩
    rw [key] at g1 g2
    have r1 := comb_in a (show 0 < p by omega) (runL p pl c0.1 c0.2).1 (runL p pl c1.1 c1.2).1 (runL p pl c2.1 c2.2).1
    have r2 := comb_in a (show 0 < p by omega) (runL p pl c0.1 c0.2).2 (runL p pl c1.1 c1.2).2 (runL p pl c2.1 c2.2).2
    have n1 := comb_len p a (n := n) (show (runL p pl c0.1 c0.2).1.length = n by rw [run_len]; exact l0) (show (runL p pl c1.1 c1.2).1.length = n by rw [run_len]; exact l1) (show (runL p pl c2.1 c2.2).1.length = n by rw [run_len]; exact l2)
    have n2 := comb_len p a (n := (runL p pl c0.1 c0.2).2.length) rfl (run_outs_eq (p := p) pl c1.1 c1.2 c0.1 c0.2) (run_outs_eq (p := p) pl c2.1 c2.2 c0.1 c0.2)
    obtain ⟨z1, z2, z3, z4⟩ := show_res hp2 r1 r2 (by omega) (by omega)
    refine ⟨t, _, rfl, dp_res gt g1 g2, z1, z2, z3, z4, ?_⟩
    -- the second
    refine ⟨.ref Y, rfl, Y, _, rfl, .inl ⟨.of (sh _ _ hY), fun l hl => ?_⟩⟩
    have sl := new_same hl (o := .tup [.ref y0, .ref y1])
    refine ⟨l, _, rfl, dp_res upd_same (sl _ _ (sh _ _ hy0)) (sl _ _ (sh _ _ hy1)), z1, z2, z3, z4, rfl, _, rfl, iteNS rfl ?_⟩
    have sAll := se.trans (sf.trans (sg.trans (sh.trans sl)))
    exact ⟨_, _, _, _, _, _, rfl, ea.trans (ed.trans (Ext.same ed.urn sAll)), Rep.keep (Tups.of_same sAll) 5 tp pl hrepd⟩
  · rintro σ Ha ⟨v5, v6, v7, v8, v9, v10, rfl, ea, hrepa⟩
    exact q Ha ea
end
end K13
end
section
set_option maxRecDepth 100000
set_option maxHeartbeats 1000000
namespace K13
open PySem L2
/-- a text so many times -/
theorem op_times {X : Cx} : OpR X (binaryOp .Mult) (fun x y H Q => ∃ z n, x = .str z ∧ y = .int n ∧ MulOk z n ∧ Q (.str (Txt.mul z n)) H) := by
  intro pins s σ H x y v u Q I rx ry h
  obtain ⟨z, n, rfl, rfl, hok, q⟩ := h
  obtain ⟨t, rfl⟩ := rx
  obtain ⟨t', rfl⟩ := ry
  exact SB.mul hok fun t1 k1 => ⟨.str _, H, I.tok _, ⟨_, rfl⟩, q⟩
theorem mul_ok : MulOk "0" 300 := ⟨by decide +kernel, fun _ _ => by decide +kernel, fun _ _ => by decide +kernel⟩
def zeros : Str := Txt.mul "0" 300
def bigS : Str := Str.ofString "1" ++ zeros
theorem big_len : bigS.length ≤ 640 := by decide +kernel
theorem zeros_len : (Str.ofString "1").length + zeros.length ≤ sizeLine := by decide +kernel
theorem big_is : PySem.intText? bigS = some (10 ^ 300) := by decide +kernel
theorem big_pos : (0 : Int) < 10 ^ 300 := by decide +kernel
section
variable {P : Program} {w : World} {K : PySem.W.Frag} {mg : Str → Option Value} {base : Heap}
/-! ## urn -/
abbrev sUrn : Stmt := topS 20
abbrev nUrn : List Str := ["_law_script", "_law_k", "_law_cell", "_law_own"]
theorem scUrn : FnScope nUrn ["_law_script", "_law_k"] (defScope sUrn) := ⟨rfl, rfl, rfl, by decide +kernel, rfl, by decide +kernel, by decide +kernel⟩
def spUrn (K : PySem.W.Frag) : Sp := fun vs H Q _ => ∃ (a : Addr) (k : Nat) (ns : List Int), vs = [.ref a, .int k] ∧ SqL K H a (ns.map V.int) ∧ k ≤ 2 ∧ ∀ (u : Addr) (H' : Hp), Same H H' → H u = none → Urn H' u → Q (.ref u) H'
theorem ok_urn {f : Addr} {fd : FuncData} (T : Txt mg) (F : Fun K "_law_urn" "_law_urn" sUrn f fd) : FnOk P w K mg base CX0 1 f fd ["_law_script", "_law_k"] (spUrn K) := by
  refine F.ok scUrn (fun vs H Q E h => ?_) (fun cdv A outer s H vs Q E hr h => ?_)
  · obtain ⟨a, k, ns, rfl, _⟩ := h
    rfl
  obtain ⟨a, k, ns, rfl, hS, hk, q⟩ := h
  refine ⟨_, pss_cons (ps_set (i := 2) scUrn.nd rfl (.inl rfl) (pe_ifExp (pt_cmpR op_lt (pv 1) (pe_callB call_len_seq (by rfl) T.len PySem.boot_len (pa_cons (pv 0) pa_nil)) (nomark _)) (pe_ix ix_list (pv 0) (pv 1) (fun _ _ => rfl)) (pe_op op_add (pe_op op_mul pe_int (pv 1)) pe_int)))
    (pss_cons (ps_set (i := 3) scUrn.nd rfl (.inl rfl) (pe_op op_mul (pe_op op_mod (pe_callB call_abs (by rfl) T.abs PyProof.Rows.boot_abs (pa_cons (pv 2) pa_nil))
        (pe_callTy call_int_str (by rfl) T.int (by decide +kernel) (pa_cons (pe_op op_add_str pe_str (pe_op op_times pe_str pe_int)) pa_nil)))
      (pe_callTy call_int1 (by rfl) T.int (by decide +kernel) (pa_cons (pe_cmpR op_ge (pe_callB call_abs (by rfl) T.abs PyProof.Rows.boot_abs (pa_cons (pv 2) pa_nil)) (pe_op op_pow pe_int pe_int) (nomark _)) pa_nil))))
    (pss_one (ps_ret (pe_lst (pa_cons (pv 3) (pa_cons (pe_op op_mod (pe_op op_mul (pe_op op_add (pe_op op_add (pe_op op_mod (pv 2) pe_int) (pe_op op_mul (pe_op op_mul pe_int (pv 1)) (pv 1))) pe_int) pe_int) pe_int) pa_nil)))))), ?_⟩
  -- from the cell on
  have go : ∀ c : Int, (tSeq (tAsg (tOp (rI CMul fun i j => .int (i * j)) (tOp (rI (fun _ j => 0 < j) fun i j => .int (i % j)) (tCB (fun xs H Q => ∃ i, xs = [.int i] ∧ Q (.int (if i < 0 then -i else i)) H) (tCons (tVar 2) tNil))
        (tCB (fun xs H Q => ∃ a n, xs = [.str a] ∧ PySem.intText? a = some n ∧ a.length ≤ 640 ∧ Q (.int n) H) (tCons (tOp (fun x y H Q => ∃ i j, x = .str i ∧ y = .str j ∧ i.length + j.length ≤ sizeLine ∧ Q (.str (i ++ j)) H) (tC (.str "1"))
          (tOp (fun x y H Q => ∃ z n, x = .str z ∧ y = .int n ∧ MulOk z n ∧ Q (.str (Txt.mul z n)) H) (tC (.str "0")) (tC (.int 300)))) tNil)))
        (tCB (fun xs H Q => (∃ i, xs = [.int i] ∧ Q (.int i) H) ∨ ∃ k, xs = [.bl k] ∧ Q (.int (if k then 1 else 0)) H) (tCons (tOp (rI0 fun i j => .bl (decide (j ≤ i))) (tCB (fun xs H Q => ∃ i, xs = [.int i] ∧ Q (.int (if i < 0 then -i else i)) H) (tCons (tVar 2) tNil)) (tOp (rI CPow fun i j => .int (i ^ j.toNat)) (tC (.int 10)) (tC (.int 18)))) tNil))) (gName 3))
      (tRet (tLst (tCons (tVar 3) (tCons (tOp (rI (fun _ j => 0 < j) fun i j => .int (i % j)) (tOp (rI CMul fun i j => .int (i * j)) (tOp (rI0 fun i j => .int (i + j)) (tOp (rI0 fun i j => .int (i + j)) (tOp (rI (fun _ j => 0 < j) fun i j => .int (i % j)) (tVar 2) (tC (.int 2305843009213693951)))
        (tOp (rI CMul fun i j => .int (i * j)) (tOp (rI CMul fun i j => .int (i * j)) (tC (.int 7919)) (tVar 1)) (tVar 1))) (tC (.int 11))) (tC (.int 48271))) (tC (.int 2305843009213693951))) tNil))))) { nx := fun _ G => Q .non G, rt := Q } [some (.ref a), some (.int k), some (.int c), none] H := by
    intro c
    refine ⟨.int c, rfl, c, rfl, ?_⟩
    refine ⟨"0", 300, rfl, rfl, mul_ok, "1", zeros, rfl, rfl, zeros_len, bigS, 10 ^ 300, rfl, big_is, big_len, _, 10 ^ 300, rfl, rfl, big_pos, ?_⟩
    refine ⟨.int c, rfl, c, rfl, 10, 18, rfl, rfl, ⟨by decide, by decide, by decide⟩, _, _, rfl, rfl, .inr ⟨_, rfl, ?_⟩⟩
    obtain ⟨ac, hac⟩ : ∃ z : Int, (if c < 0 then -c else c) = z := ⟨_, rfl⟩
    obtain ⟨bb, hbb⟩ : ∃ z : Bool, decide ((10 : Int) ^ (18 : Int).toNat ≤ (if c < 0 then -c else c)) = z := ⟨_, rfl⟩
    refine ⟨ac % 10 ^ 300, if bb = true then 1 else 0, by rw [← hac], by rw [← hbb], .inr (by cases bb <;> exact ⟨by decide, by decide⟩), ?_⟩
    refine ⟨_, rfl, .int c, rfl, c, 2305843009213693951, rfl, rfl, (by show (0 : Int) < 2305843009213693951; decide), .int k, rfl, 7919, k, rfl, rfl, .inl ⟨by decide, by decide⟩, .int k, rfl, 7919 * (k : Int), k, rfl, rfl, .inr ⟨by omega, by omega⟩, _, _, rfl, rfl, _, 11, rfl, rfl, _, 48271, rfl, rfl, .inr ⟨by decide, by decide⟩,
      _, 2305843009213693951, rfl, rfl, (by show (0 : Int) < 2305843009213693951; decide), (by show 2 ≤ sizeLine; decide), fun u hu => ?_⟩
    refine q u _ (new_same hu) hu ⟨_, _, upd_same, ?_, Int.emod_nonneg _ (by decide), Int.emod_lt_of_pos _ (by decide)⟩
    refine Int.mul_nonneg (Int.emod_nonneg _ (Int.ne_of_gt big_pos)) ?_
    cases bb <;> decide
  refine ⟨.int k, rfl, .ref a, rfl, a, _, rfl, .inl hS, _, _, rfl, rfl, _, rfl, ite2 (fun c => ?_) (fun c => ?_)⟩
  · have hkl : k < ns.length := by
      have c' := of_decide_eq_true c
      rw [List.length_map] at c'
      omega
    exact ⟨.ref a, rfl, .int k, rfl, a, _, k, _, rfl, rfl, hS, ints_ix rfl hkl, go _⟩
  · exact ⟨.int k, rfl, 3, k, rfl, rfl, .inl ⟨by decide, by decide⟩, 3 * (k : Int), 1, rfl, rfl, go _⟩
/-! ## law -/
abbrev sLaw : Stmt := topS 31
abbrev nLaw : List Str := ["_law_script", "_law_k", "_law_urn_here", "_law_turn"]
theorem scLaw : FnScope nLaw ["_law_script"] (defScope sLaw) := ⟨rfl, rfl, rfl, by decide +kernel, rfl, by decide +kernel, by decide +kernel⟩
def spLaw (K : PySem.W.Frag) : Sp := fun vs H Q _ => ∃ (a : Addr) (ns : List Int), vs = [.ref a] ∧ SqL K H a (ns.map V.int) ∧ ns.length ≤ 63 ∧ ∀ H', Q (.bl true) H'
theorem ok_law {f fN fR : Addr} {fd fdN fdR : FuncData} (T : Txt mg) (F : Fun K "law" "law" sLaw f fd) (DN : DefAt K mg "_law_urn" sUrn ["_law_script", "_law_k"] fN fdN) (GN : FnOk P w K mg base CX0 1 fN fdN ["_law_script", "_law_k"] (spUrn K))
    (DR : DefAt K mg "_law_right" sRight ["_law_urn_here"] fR fdR) (GR : FnG P w K mg base 9 fR fdR ["_law_urn_here"] spRight) : FnG P w K mg base 10 f fd ["_law_script"] (spLaw K) := by
  refine FnG.of F scLaw (fun vs H Q E h => ?_) (fun cdv A outer s H vs Q E hgd hr h => ?_)
  · obtain ⟨a, ns, rfl, _⟩ := h
    rfl
  obtain ⟨a, ns, rfl, hS, h63, q⟩ := h
  have hr1 : Room 1 _ := hr.mono (by decide)
  refine ⟨_, pss_cons (ps_for PassesOwn.never rfl (pi_range1 rfl T.range (pa_cons (pe_callB (call_max2 rfl) (by rfl) T.max PyProof.Rows.boot_max (pa_cons pe_int (pa_cons (pe_callB (call_min2 rfl) (by rfl) T.min PyProof.Rows.boot_min (pa_cons pe_int
        (pa_cons (pe_callB call_len_seq (by rfl) T.len PySem.boot_len (pa_cons (pv 0) pa_nil)) pa_nil))) pa_nil))) pa_nil)) (pg_name (i := 1) scLaw.nd rfl (.inl rfl))
      (pss_cons (ps_set (i := 2) scLaw.nd rfl (.inr rfl) (pe_call GN hr1 rfl DN.m DN.fn.kp DN.b .nil pass0 (pa_cons (pv 0) (pa_cons (pv 1) pa_nil))))
      (pss_one (ps_if (pt_not (pt_val (pe_callB (cr_all rfl) (by rfl) T.all PyProof.Rows.boot_all (pa_cons (pe_lc (own := [("_law_turn", 3)]) (g := gName 3) (tt := tYes) (te := tCall spRight [] E0 (tCons (tVar 2) tNil)) rfl scLaw.nd (pi_range1 rfl T.range (pa_cons pe_int pa_nil))
        (blkOk_by (N := nLaw) (sc := defScope sLaw) (by decide +kernel)) (fun _ _ _ _ _ => pg_name (i := 3) scLaw.nd rfl (.inl rfl)) (fun _ _ _ _ _ => pts_nil)
        (fun _ _ _ _ _ => pe_callG GR hgd hr rfl DR.m DR.fn.kp DR.b (pa_cons (pv 2) pa_nil))) pa_nil)))) (pss_one (ps_ret pe_bl)) pss_nil))))
    (pss_one (ps_ret pe_bl)), ?_⟩
  have hl : (ns.map V.int).length = ns.length := List.length_map _
  refine ⟨.ref a, rfl, a, _, rfl, .inl hS, 3, _, rfl, 1, _, rfl, ?_⟩
  rw [hl]
  obtain ⟨m, hm, hm3⟩ : ∃ m : Nat, (if (if ((ns.length : Nat) : Int) < 3 then ((ns.length : Nat) : Int) else 3) > 1 then (if ((ns.length : Nat) : Int) < 3 then ((ns.length : Nat) : Int) else 3) else 1) = (m : Int) ∧ m ≤ 3 := by
    by_cases h1 : ((ns.length : Nat) : Int) < 3
    · rw [if_pos h1]
      by_cases h2 : ((ns.length : Nat) : Int) > 1
      · rw [if_pos h2]
        exact ⟨ns.length, rfl, by omega⟩
      · rw [if_neg h2]
        exact ⟨1, rfl, by decide⟩
    · rw [if_neg h1]
      exact ⟨3, rfl, by decide⟩
  rw [hm]
  refine ⟨m, rfl, by omega, by omega, ?_⟩
  refine for_range (lo := 0) (n := (m : Int).toNat) (fun i σ H' => ∃ v1 v2 : Option V, σ = [some (.ref a), v1, v2, none] ∧ Same H H') ⟨none, none, rfl, Same.refl H⟩ ?_ ?_
  · rintro i σ H1 hi ⟨v1, v2, rfl, s1⟩
    refine ⟨.ref a, rfl, .int (0 + (i : Int)), rfl, a, i, ns, by rw [Int.zero_add]; rfl, s1.seq hS, by omega, fun u H2 s2 hu0 hu => ?_⟩
    have hu0' : H u = none := s1.free hu0
    refine ⟨3, rfl, by decide, by decide, fun D hD => ?_⟩
    have hDu : D ≠ u := (hu.ne hD).symm
    refine lc_range (lo := 0) (n := (3 : Int).toNat) (fun j H' => Same H H' ∧ Urn H' u ∧ H' D = some (.lst ((List.replicate j true).map V.bl))) ⟨(s1.trans s2).trans (new_same hD), hu.upd hDu.symm, upd_same⟩ ?_ ?_
    · rintro j H3 hj ⟨s3, hu3, hD3⟩
      have hj3 : j < 3 := hj
      refine ⟨rfl, ?_⟩
      refine ⟨.ref u, rfl, u, rfl, hu3, fun H4 e4 => ?_⟩
      have hD0 : H D = none := (s1.trans s2).free hD
      have s4 : Same H H4 := fun b o e => e4.keep b o (ne_of_none e hu0') (s3 b o e)
      refine ⟨_, e4.keep _ _ hDu hD3, by rw [List.length_map, List.length_replicate]; exact small1000 (by omega), same_put s4 hD0, e4.urn.upd hDu.symm, ?_⟩
      rw [upd_same, List.replicate_succ', List.map_append]
      rfl
    · rintro H3 ⟨s3, hu3, hD3⟩
      refine ⟨D, _, rfl, .of hD3, _, rfl, iteF ?_⟩
      exact ⟨_, _, rfl, s3⟩
  · rintro σ H1 ⟨v1, v2, rfl, s1⟩
    exact q H1
end
/-! ## the call from outside -/
section
open PySem.Spec PyProof.Rows
variable {P : Program} {w : World} {K : PySem.W.Frag} {mg mb : Str → Option Value} {k : Nat} {fa a : Addr} {fd : FuncData} {x : Str} {sp : Sp} {s : Shared} {vs : List Value} {ns : List Int}
/-- what is known of the answer -/
def Ans (s : Shared) (r : Result) (s' : Shared) : Prop := r = .ok (.ret (.bool true)) ∧ OldK s.heap s'.heap ∧ s'.os = s.os ∧ AllBare s'.gens
/-- from an abstract heap in which nothing stands, or the script alone, held to its object -/
theorem call_core (F : ∀ g : Heap, K.In g → g.Ns mainGlobals mg → FnG P w K mg g k fa fd [x] sp) (hbind : ∀ (s : Shared) (u : Value), BindsTo s fd ⟨[u], []⟩ [(x, u)]) (hr : Room k callerA)
    (kx : K.In s.heap) (hns : s.heap.Ns mainGlobals mg) (hb : s.heap.Ns builtinsNs mb) (hbb : ∀ y : Str, y ≠ "__name__" → mb y = bootBuiltins y) (hlim : s.heap.NoLimit) (hg : s.gens = #[])
    (ha : s.heap.get? a = some { cls := .type "list", data := .seq vs.toArray }) {H : Hp} (only : ∀ b u, H b = some u → b = a ∧ ∃ o xs, u = .frz o (.lst xs)) (free : ∀ u, H a = some u → K.lookup a = none) (hok : HOk P w H s.heap)
    (hsp : sp [.ref a] H (fun v _ => v = .bl true) E0) : codeAny (model P w) callerA (.call (.ref fa) ⟨[.ref a], []⟩) (Ans s) s := by
  have none_of : ∀ {b : Addr}, b ≠ a → H b = none := fun {b} hn => by
    cases q : H b with
    | none => rfl
    | some u => exact absurd (only b u q).1 hn
  have kept : ∀ {b : Addr} {o : Obj}, s.heap.get? b = some o → H b = none → (hidT s.heap H).get? b = some o := fun e n => hidT_get e n
  have dicts : ∀ {b : Addr} {m : Str → Option Value}, s.heap.Ns b m → (hidT s.heap H).Ns b m := by
    rintro b m ⟨o, es, ep, e, d, r⟩
    refine ⟨o, es, ep, kept e (none_of ?_), d, r⟩
    rintro rfl
    rw [ha] at e
    cases e
    have d' : Data.seq vs.toArray _ = Data.dict es ep := d
    cases d'
  have kin : K.In (hidT s.heap H) := fun b o e => kept (kx b o e) (by
    cases q : H b with
    | none => rfl
    | some u =>
      obtain ⟨rfl, _⟩ := only b u q
      rw [free u q] at e
      cases e)
  obtain ⟨mc, l1, l2⟩ := hlim
  have hm : Mod K mg (hidT s.heap H) := ⟨kin, dicts hns, ⟨mb, dicts hb, hbb⟩, mc, dicts l1, l2⟩
  have e0 : Env0 P w K mg (hidT s.heap H) callerA [] s H := ⟨rfl, hm, fun b o e => of_hidT e, Nat.le_of_eq (hidT_size _ _), trivial, fun b z => (nomatch z), hok, .of_eq hg⟩
  have run := (F _ kin (dicts hns)).run callerA [] s H ⟨[.ref a], []⟩ [.ref a] [.ref a] _ _ rfl hr e0 (hbind s (.ref a)) (.cons rfl .nil) hsp
  refine codeAny_mono run fun r s' h => ?_
  match r, h with
  | .error e, h => exact False.elim h
  | .ok .next, h => exact False.elim h
  | .ok .brk, h => exact False.elim h
  | .ok .cont, h => exact False.elim h
  | .ok (.ret u), h =>
    obtain ⟨v, G, os, bare, un, hok', rv, rfl⟩ := h
    cases rv
    refine ⟨rfl, OldK.of_keep fun b o e => ?_, os, bare⟩
    cases q : H b with
    | none => exact un.keep b o e q (fun z => nomatch z) (fun z => nomatch z)
    | some u =>
      obtain ⟨_, ob, xs, rfl⟩ := only b u q
      have g1 := (hok b _ q).1
      have g2 := (hok' b _ (un.frzs b ob _ q)).1
      rw [e] at g1
      cases g1
      exact g2
theorem law_callG (F : ∀ g : Heap, K.In g → g.Ns mainGlobals mg → FnG P w K mg g k fa fd [x] sp) (hbind : ∀ (s : Shared) (u : Value), BindsTo s fd ⟨[u], []⟩ [(x, u)]) (hr : Room k callerA)
    (kx : K.In s.heap) (hns : s.heap.Ns mainGlobals mg) (hb : s.heap.Ns builtinsNs mb) (hbb : ∀ y : Str, y ≠ "__name__" → mb y = bootBuiltins y) (hlim : s.heap.NoLimit) (hg : s.gens = #[])
    (ha : s.heap.get? a = some { cls := .type "list", data := .seq vs.toArray }) (hi : IntsAre vs ns) (hl : ns.length ≤ sizeLine)
    (hsp : ∀ H : Hp, SqL K H a (ns.map V.int) → sp [.ref a] H (fun v _ => v = .bl true) E0) : codeAny (model P w) callerA (.call (.ref fa) ⟨[.ref a], []⟩) (Ans s) s := by
  have rv := L2.vals_ints hi
  cases hk : K.lookup a with
  | some o =>
    have e := kx a o hk
    rw [ha] at e
    cases e
    refine call_core (H := fun _ => none) F hbind hr kx hns hb hbb hlim hg ha (fun b u z => nomatch z) (fun u z => nomatch z) (fun b u z => nomatch z) (hsp _ (.inr ⟨_, vs.toArray, _, hk, rfl, rfl, rfl, ?_, by simpa using rv⟩))
    rw [List.size_toArray, hi.length]
    exact hl
  | none =>
    obtain ⟨H, hH⟩ : ∃ H : Hp, H = L2.upd (fun _ => none) a (.frz { cls := .type "list", data := .seq vs.toArray } (.lst (ns.map V.int))) := ⟨_, rfl⟩
    have at_a : H a = some (.frz { cls := .type "list", data := .seq vs.toArray } (.lst (ns.map V.int))) := by rw [hH, upd_same]
    have off : ∀ b, b ≠ a → H b = none := fun b hn => by rw [hH, upd_ne hn]
    have only : ∀ b u, H b = some u → b = a ∧ u = .frz { cls := .type "list", data := .seq vs.toArray } (.lst (ns.map V.int)) := fun b u z => by
      by_cases hn : b = a
      · subst hn
        rw [at_a] at z
        cases z
        exact ⟨rfl, rfl⟩
      · rw [off b hn] at z
        cases z
    refine call_core (H := H) F hbind hr kx hns hb hbb hlim hg ha (fun b u z => ⟨(only b u z).1, _, _, (only b u z).2⟩) (fun _ _ => hk) (fun b u z => ?_) (hsp _ (.inl (.inr ⟨_, at_a⟩)))
    obtain ⟨rfl, rfl⟩ := only b u z
    exact ⟨ha, by rw [List.length_map]; exact hl, vs, _, rv, ha⟩
end
section
open PySem.Spec PyProof.Rows
theorem walk_G {l : PySem.W.OpenLaw} {n k : Nat} {q : Program} {loose : List Str} {XP : (Str → Option Value) → Heap → Prop} {YP : World → Heap → Prop} {d : DefRec} {K : Params → PySem.W.Frag} {x : Str} {sp : PySem.W.Frag → Sp}
    (hn : l.most = some n) (hn2 : n ≤ sizeLine) (hdf : d.params.defaults = []) (hr : Room k callerA) (hY : ∀ (w : World) (h : Heap), YP w h → (K w.params).In h)
    (F : ∀ (w : World) (mg : Str → Option Value) (fa : Addr) (h : Heap), (K w.params).In h → h.Ns mainGlobals mg → mg d.name = some (.ref fa) →
      ∃ fd : FuncData, (∀ (s : Shared) (u : Value), BindsTo s fd ⟨[u], []⟩ [(x, u)]) ∧ ∀ g : Heap, (K w.params).In g → g.Ns mainGlobals mg → FnG l.prog w (K w.params) mg g k fa fd [x] (sp (K w.params)))
    (hsp : ∀ (K : PySem.W.Frag) (H : Hp) (a : Addr) (ns : List Int), ns.length ≤ n → SqL K H a (ns.map V.int) → sp K [.ref a] H (fun v _ => v = .bl true) E0) :
    PySem.W.WalkO q loose XP YP l.row.toRowW d [] (fun f vs => PySem.call f vs) := by
  refine Att.attach_call hn hdf fun w s0 s1 mg mb fa o pm cd doc a vs ns G Y ho hd hcd hmg hobj hints hlen hg => ?_
  obtain ⟨fd, hb, hF⟩ := F w mg fa _ (hY w _ Y) G.T.g hmg
  exact law_callG hF hb hr (hY w _ Y) G.T.g G.T.b G.T.builtins G.T.nolimit hg hobj hints (Nat.le_trans hlen hn2) fun H hS => hsp _ H a ns hlen hS
end
end K13
end
section
set_option maxRecDepth 100000
set_option maxHeartbeats 1000000
namespace K13
open PySem L2
/-- the def x of the text lies behind the top -/
def Lies (K : PySem.W.Frag) (x : Str) (st : Stmt) : Prop := ∃ (f : Addr) (oc : Value) (od : Option Addr) (kV dc pm : Value) (an : Option Addr) (cd ct : Value) (sl : Array (Option Value)),
  PySem.W.nsIn K mainGlobals x = some (some (.ref f)) ∧ K.lookup f = some ⟨oc, od, .func (PySem.W.fnOf x x (defArgs st) (defBody st) (defScope st) .none kV dc pm an cd ct), sl⟩ ∧ PySem.W.codeIn K cd x = true ∧ PySem.W.keepIn K (.ref f) = true
theorem lies_mk {K : PySem.W.Frag} {x : Str} {st : Stmt} {f : Addr} {oc : Value} {od : Option Addr} {kV dc pm : Value} {an : Option Addr} {cd ct : Value} {sl : Array (Option Value)}
    (a : PySem.W.nsIn K mainGlobals x = some (some (.ref f))) (l : K.lookup f = some ⟨oc, od, .func (PySem.W.fnOf x x (defArgs st) (defBody st) (defScope st) .none kV dc pm an cd ct), sl⟩)
    (c : PySem.W.codeIn K cd x = true) (k : PySem.W.keepIn K (.ref f) = true) : Lies K x st := ⟨f, oc, od, kV, dc, pm, an, cd, ct, sl, a, l, c, k⟩
/-- a text, a number of the module -/
def Says (K : PySem.W.Frag) (x z : Str) : Prop := ∃ t, PySem.W.nsIn K mainGlobals x = some (some (.str z t))
theorem says_mk {K : PySem.W.Frag} {x z : Str} {t : Tok} (a : PySem.W.nsIn K mainGlobals x = some (some (.str z t))) : Says K x z := ⟨t, a⟩
def Nums (K : PySem.W.Frag) (x : Str) (z : Int) : Prop := ∃ t, PySem.W.nsIn K mainGlobals x = some (some (.int z t))
theorem nums_mk {K : PySem.W.Frag} {x : Str} {z : Int} {t : Tok} (a : PySem.W.nsIn K mainGlobals x = some (some (.int z t))) : Nums K x z := ⟨t, a⟩
theorem Lies.at {K : PySem.W.Frag} {h : Heap} {mg : Str → Option Value} {x : Str} {st : Stmt} {ps : List Str} (X : K.In h) (G : h.Ns mainGlobals mg) (L : Lies K x st)
    (hb : ∀ (kV doc pm : Value) (an : Option Addr) (cdv ct : Value) (us : List Value), us.length = ps.length → bindArgs (PySem.W.fnOf x x (defArgs st) (defBody st) (defScope st) .none kV doc pm an cdv ct) ⟨us, []⟩ = pure (ps.zip us)) :
    ∃ f fd, DefAt K mg x st ps f fd := by
  obtain ⟨f, oc, od, kV, dc, pm, an, cd, ct, sl, a, l, c, k⟩ := L
  have F := fun_mk (st := st) l c k
  exact ⟨f, _, F, F.binds hb, PySem.W.mg_of X G a⟩
theorem all_mk {l : PySem.W.OpenLaw} {w : World} {K : PySem.W.Frag} {h : Heap} {mg : Str → Option Value} {fa : Addr} (X : K.In h) (G : h.Ns mainGlobals mg) (hfa : mg "law" = some (.ref fa))
    (d12 : Lies K "times" sTimes) (d13 : Lies K "step_count" sSteps) (d16 : Lies K "after" sAfter) (d17 : Lies K "executed" sExec) (d18 : Lies K "run" sRun) (d20 : Lies K "_law_urn" sUrn) (d21 : Lies K "_law_take" sTake) (d22 : Lies K "_law_of" sOf)
    (d23 : Lies K "_law_prime" sPrime) (d24 : Lies K "_law_item" sItem) (d25 : Lies K "_law_body" sBody) (d26 : Lies K "_law_words" sWords) (d27 : Lies K "_law_executed" sLexec) (d28 : Lies K "_law_tuple" sTuple) (d29 : Lies K "_law_combined" sComb)
    (d30 : Lies K "_law_right" sRight) (d31 : Lies K "law" sLaw)
    (c1 : Says K "SET" "set") (c2 : Says K "COPY" "copy") (c3 : Says K "ADD" "add") (c4 : Says K "SCALE" "scale") (c5 : Says K "SWAP" "swap") (c6 : Says K "READ" "read") (c7 : Says K "WRITE" "write") (c8 : Says K "LOOP" "loop") (c9 : Nums K "MOST_STEPS" 20000)
    (z1 : PySem.W.nsIn K mainGlobals "len" = some none) (z2 : PySem.W.nsIn K mainGlobals "abs" = some none) (z3 : PySem.W.nsIn K mainGlobals "int" = some none) (z4 : PySem.W.nsIn K mainGlobals "list" = some none) (z5 : PySem.W.nsIn K mainGlobals "tuple" = some none)
    (z6 : PySem.W.nsIn K mainGlobals "range" = some none) (z7 : PySem.W.nsIn K mainGlobals "zip" = some none) (z8 : PySem.W.nsIn K mainGlobals "repr" = some none) (z9 : PySem.W.nsIn K mainGlobals "max" = some none) (zA : PySem.W.nsIn K mainGlobals "min" = some none) (zB : PySem.W.nsIn K mainGlobals "all" = some none) :
    ∃ fd : FuncData, (∀ (s : Shared) (v : Value), BindsTo s fd ⟨[v], []⟩ [("_law_script", v)]) ∧ ∀ g : Heap, K.In g → g.Ns mainGlobals mg → FnG l.prog w K mg g 10 fa fd ["_law_script"] (spLaw K) := by
  have cs : ∀ {x z : Str}, Says K x z → ∃ t, mg x = some (.str z t) := fun ⟨t, a⟩ => ⟨t, PySem.W.mg_of X G a⟩
  have cn : ∀ {x : Str} {z : Int}, Nums K x z → ∃ t, mg x = some (.int z t) := fun ⟨t, a⟩ => ⟨t, PySem.W.mg_of X G a⟩
  have T : Txt mg := ⟨cs c1, cs c2, cs c3, cs c4, cs c5, cs c6, cs c7, cs c8, cn c9, PySem.W.mg_none_of X G z1, PySem.W.mg_none_of X G z2, PySem.W.mg_none_of X G z3, PySem.W.mg_none_of X G z4, PySem.W.mg_none_of X G z5, PySem.W.mg_none_of X G z6, PySem.W.mg_none_of X G z7,
    PySem.W.mg_none_of X G z8, PySem.W.mg_none_of X G z9, PySem.W.mg_none_of X G zA, PySem.W.mg_none_of X G zB⟩
  obtain ⟨f12, g12, D12⟩ := d12.at (ps := ["program", "words"]) X G fun _ _ _ _ _ _ us hl => match us, hl with | [_, _], _ => rfl
  obtain ⟨f13, g13, D13⟩ := d13.at (ps := ["program"]) X G fun _ _ _ _ _ _ us hl => match us, hl with | [_], _ => rfl
  obtain ⟨f16, g16, D16⟩ := d16.at (ps := pAfter) X G fun _ _ _ _ _ _ us hl => match us, hl with | [_, _, _, _], _ => rfl
  obtain ⟨f17, g17, D17⟩ := d17.at (ps := ["program"]) X G fun _ _ _ _ _ _ us hl => match us, hl with | [_], _ => rfl
  obtain ⟨f18, g18, D18⟩ := d18.at (ps := pRun) X G fun _ _ _ _ _ _ us hl => match us, hl with | [_, _, _, _], _ => rfl
  obtain ⟨f20, g20, D20⟩ := d20.at (ps := ["_law_script", "_law_k"]) X G fun _ _ _ _ _ _ us hl => match us, hl with | [_, _], _ => rfl
  obtain ⟨f21, g21, D21⟩ := d21.at (ps := ["_law_urn_here", "_law_below"]) X G fun _ _ _ _ _ _ us hl => match us, hl with | [_, _], _ => rfl
  obtain ⟨f22, g22, D22⟩ := d22.at (ps := ["_law_urn_here", "_law_items"]) X G fun _ _ _ _ _ _ us hl => match us, hl with | [_, _], _ => rfl
  obtain ⟨f23, g23, D23⟩ := d23.at (ps := ["_law_urn_here"]) X G fun _ _ _ _ _ _ us hl => match us, hl with | [_], _ => rfl
  obtain ⟨f24, g24, D24⟩ := d24.at (ps := pItem) X G fun _ _ _ _ _ _ us hl => match us, hl with | [_, _, _, _], _ => rfl
  obtain ⟨f25, g25, D25⟩ := d25.at (ps := pBody) X G fun _ _ _ _ _ _ us hl => match us, hl with | [_, _, _, _, _, _, _], _ => rfl
  obtain ⟨f26, g26, D26⟩ := d26.at (ps := []) X G fun _ _ _ _ _ _ us hl => match us, hl with | [], _ => rfl
  obtain ⟨f27, g27, D27⟩ := d27.at (ps := ["_law_program"]) X G fun _ _ _ _ _ _ us hl => match us, hl with | [_], _ => rfl
  obtain ⟨f28, g28, D28⟩ := d28.at (ps := pTuple) X G fun _ _ _ _ _ _ us hl => match us, hl with | [_, _, _], _ => rfl
  obtain ⟨f29, g29, D29⟩ := d29.at (ps := pComb) X G fun _ _ _ _ _ _ us hl => match us, hl with | [_, _, _, _, _], _ => rfl
  obtain ⟨f30, g30, D30⟩ := d30.at (ps := ["_law_urn_here"]) X G fun _ _ _ _ _ _ us hl => match us, hl with | [_], _ => rfl
  obtain ⟨f, oc, od, kV, dc, pm, an, cd, ct, sl, a, ll, c, k⟩ := d31
  have e := hfa.symm.trans (PySem.W.mg_of X G a)
  cases e
  have F31 := fun_mk (st := sLaw) ll c k
  refine ⟨PySem.W.fnOf "law" "law" (defArgs sLaw) (defBody sLaw) (defScope sLaw) .none kV dc pm an cd ct, fun s v => .of_eq rfl, fun g _ _ => ?_⟩
  have G21 : FnOk l.prog w K mg g CX0 1 f21 g21 ["_law_urn_here", "_law_below"] spTake := ok_take D21.fn
  have G22 : FnOk l.prog w K mg g CX0 2 f22 g22 ["_law_urn_here", "_law_items"] spOf := ok_of T D22.fn D21
  have G24 : FnOk l.prog w K mg g CX0 3 f24 g24 pItem spItem := ok_item D24.fn D21 G21 D22 G22
  have G16 : FnOk l.prog w K mg g CX0 1 f16 g16 pAfter spAfter := ok_after T D16.fn
  have G13 : FnOk l.prog w K mg g CX0 6 f13 g13 ["program"] (spSteps 5) := ok_steps D13.fn D12 (times_all T D12 5)
  have G18 : FnOk l.prog w K mg g CX0 7 f18 g18 pRun (spRun 5) := ok_run (d := 4) T D18.fn D13 G13 D17 (exec_all T D17 5) D16 G16
  have G30 : FnG l.prog w K mg g 9 f30 g30 ["_law_urn_here"] spRight := ok_right T D30.fn D21 G21 D23 (ok_prime D23.fn D22 G22) D25 (body_all T D25 D21 G21 D22 G22 D24 G24 4) D26 (ok_words D26.fn) D27 (lexec_all T D27 5) D28 (ok_tuple T D28.fn D21 G21 D22 G22) D18 G18 D29 (ok_comb T D29.fn)
  exact ok_law T F31 D20 (ok_urn T D20.fn) D30 G30
theorem walk {l : PySem.W.OpenLaw} {q : Program} {loose : List Str} {XP : (Str → Option Value) → Heap → Prop} {YP : World → Heap → Prop} {d : DefRec} {K : Params → PySem.W.Frag} (hn : l.most = some 63) (hdf : d.params.defaults = [])
    (hY : ∀ (w : World) (h : Heap), YP w h → (K w.params).In h)
    (F : ∀ (w : World) (mg : Str → Option Value) (fa : Addr) (h : Heap), (K w.params).In h → h.Ns mainGlobals mg → mg d.name = some (.ref fa) →
      ∃ fd : FuncData, (∀ (s : Shared) (u : Value), BindsTo s fd ⟨[u], []⟩ [("_law_script", u)]) ∧ ∀ g : Heap, (K w.params).In g → g.Ns mainGlobals mg → FnG l.prog w (K w.params) mg g 10 fa fd ["_law_script"] (spLaw (K w.params))) :
    PySem.W.WalkO q loose XP YP l.row.toRowW d [] (fun f vs => PySem.call f vs) :=
  walk_G (n := 63) (k := 10) (x := "_law_script") (sp := spLaw) hn (by decide) hdf ⟨rfl, by decide, by decide⟩ hY F fun _ _ a ns hl hS => ⟨a, ns, rfl, hS, hl, fun _ => rfl⟩
end K13
end
open PySem PySem.W PyProof.Rows
set_option maxRecDepth 100000 in
set_option maxHeartbeats 0 in
theorem PySem.Challenge.cw_leastjournal_k13_whole_runs_are_affine_holds : PySem.Challenge.rw_leastjournal_k13_whole_runs_are_affine.Holds := by
  w_on; o_law; k_head; (case hw => w_witness2)
  k_fill
  refine K13.walk (l := PySem.Challenge.rw_leastjournal_k13_whole_runs_are_affine) rfl rfl (fun w h Y => PySem.W.kIn_of Y) ?F
  case F =>
    intro w mg fa h KX G hmg
    refine' K13.all_mk KX G hmg ?d12 ?d13 ?d16 ?d17 ?d18 ?d20 ?d21 ?d22 ?d23 ?d24 ?d25 ?d26 ?d27 ?d28 ?d29 ?d30 ?d31 ?c1 ?c2 ?c3 ?c4 ?c5 ?c6 ?c7 ?c8 ?c9 ?z1 ?z2 ?z3 ?z4 ?z5 ?z6 ?z7 ?z8 ?z9 ?zA ?zB
    (case d12 => refine' K13.lies_mk ?a ?l ?c ?k; (case a => k_is); (case l => k_is); (case c => k_is); (case k => k_is))
    (case d13 => refine' K13.lies_mk ?a ?l ?c ?k; (case a => k_is); (case l => k_is); (case c => k_is); (case k => k_is))
    (case d16 => refine' K13.lies_mk ?a ?l ?c ?k; (case a => k_is); (case l => k_is); (case c => k_is); (case k => k_is))
    (case d17 => refine' K13.lies_mk ?a ?l ?c ?k; (case a => k_is); (case l => k_is); (case c => k_is); (case k => k_is))
    (case d18 => refine' K13.lies_mk ?a ?l ?c ?k; (case a => k_is); (case l => k_is); (case c => k_is); (case k => k_is))
    (case d20 => refine' K13.lies_mk ?a ?l ?c ?k; (case a => k_is); (case l => k_is); (case c => k_is); (case k => k_is))
    (case d21 => refine' K13.lies_mk ?a ?l ?c ?k; (case a => k_is); (case l => k_is); (case c => k_is); (case k => k_is))
    (case d22 => refine' K13.lies_mk ?a ?l ?c ?k; (case a => k_is); (case l => k_is); (case c => k_is); (case k => k_is))
    (case d23 => refine' K13.lies_mk ?a ?l ?c ?k; (case a => k_is); (case l => k_is); (case c => k_is); (case k => k_is))
    (case d24 => refine' K13.lies_mk ?a ?l ?c ?k; (case a => k_is); (case l => k_is); (case c => k_is); (case k => k_is))
    (case d25 => refine' K13.lies_mk ?a ?l ?c ?k; (case a => k_is); (case l => k_is); (case c => k_is); (case k => k_is))
    (case d26 => refine' K13.lies_mk ?a ?l ?c ?k; (case a => k_is); (case l => k_is); (case c => k_is); (case k => k_is))
    (case d27 => refine' K13.lies_mk ?a ?l ?c ?k; (case a => k_is); (case l => k_is); (case c => k_is); (case k => k_is))
    (case d28 => refine' K13.lies_mk ?a ?l ?c ?k; (case a => k_is); (case l => k_is); (case c => k_is); (case k => k_is))
    (case d29 => refine' K13.lies_mk ?a ?l ?c ?k; (case a => k_is); (case l => k_is); (case c => k_is); (case k => k_is))
    (case d30 => refine' K13.lies_mk ?a ?l ?c ?k; (case a => k_is); (case l => k_is); (case c => k_is); (case k => k_is))
    (case d31 => refine' K13.lies_mk ?a ?l ?c ?k; (case a => k_is); (case l => k_is); (case c => k_is); (case k => k_is))
    (case c1 => refine' K13.says_mk ?a; (case a => k_is))
    (case c2 => refine' K13.says_mk ?a; (case a => k_is))
    (case c3 => refine' K13.says_mk ?a; (case a => k_is))
    (case c4 => refine' K13.says_mk ?a; (case a => k_is))
    (case c5 => refine' K13.says_mk ?a; (case a => k_is))
    (case c6 => refine' K13.says_mk ?a; (case a => k_is))
    (case c7 => refine' K13.says_mk ?a; (case a => k_is))
    (case c8 => refine' K13.says_mk ?a; (case a => k_is))
    (case c9 => refine' K13.nums_mk ?a; (case a => k_is))
    (case z1 => k_is)
    (case z2 => k_is)
    (case z3 => k_is)
    (case z4 => k_is)
    (case z5 => k_is)
    (case z6 => k_is)
    (case z7 => k_is)
    (case z8 => k_is)
    (case z9 => k_is)
    (case zA => k_is)
    (case zB => k_is)
